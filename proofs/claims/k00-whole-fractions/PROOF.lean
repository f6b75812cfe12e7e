import PyProof.Rows.All
import Wide.All
import OpenK.AllK
import Wide.FinOn
import HandS.ForMost
import HandS.ForExc
import HandS.Star
import HandS.Flow
import HandS.Wide
import HandS.Gcd
import HandS.IsInst
import HandS.CallSlots
import HandS.Head0
import HandS.Head1
import HandS.Head2
import HandS.Head3
import HandS.HeadEnd
import HandS.HeadHook1
import HandS.HeadHook2
import HandS.HeadNt
import PySem.Challenge.RW_tametrees_k00_whole_fractions
set_option Elab.async false
set_option linter.all false
set_option maxRecDepth 100000
set_option maxHeartbeats 4000000
namespace TT
open PySem

/-- data by value -/
inductive D where
  | non | bl (b : Bool) | int (i : Int) | str (x : Str)
  | tup (xs : List D) | lst (xs : List D)
  | fn (k : Nat) | ty (k : Nat)
  | scr (ns : List Int)
  deriving Inhabited

abbrev SL : Nat := 16777216

mutual
def eqD : D → D → Bool
  | .non, .non => true
  | .bl a, .bl b => a == b
  | .bl a, .int j => (if a then 1 else 0) == j
  | .int i, .bl b => i == (if b then 1 else 0)
  | .int i, .int j => i == j
  | .str x, .str y => x == y
  | .tup xs, .tup ys => eqDs xs ys
  | .lst xs, .lst ys => eqDs xs ys
  | _, _ => false
def eqDs : List D → List D → Bool
  | [], [] => true
  | x :: xs, y :: ys => eqD x y && eqDs xs ys
  | _, _ => false
end
mutual
/-- plain data, nested at most n deep -/
def dok : Nat → D → Bool
  | _, .non => true
  | _, .bl _ => true
  | _, .int _ => true
  | _, .str x => PyData.strOk x
  | n, .tup xs => match n with | 0 => false | m + 1 => doks m xs
  | n, .lst xs => match n with | 0 => false | m + 1 => doks m xs
  | _, .fn _ => false
  | _, .ty _ => false
  | _, .scr _ => false
def doks : Nat → List D → Bool
  | _, [] => true
  | n, x :: xs => dok n x && doks n xs
end
mutual
/-- nothing that changes is within -/
def flat : D → Bool
  | .tup xs => flats xs
  | .lst _ => false
  | .scr _ => false
  | _ => true
def flats : List D → Bool
  | [] => true
  | x :: xs => flat x && flats xs
end
def truth : D → Option Bool
  | .non => some false
  | .bl b => some b
  | .int i => some (i != 0)
  | .str x => if x.length ≤ SL then some ((x.length : Int) != 0) else none
  | .tup xs => some (!xs.isEmpty)
  | .lst xs => some (!xs.isEmpty)
  | _ => none

inductive Op where | add | sub | mul | fdiv | mod | pow
  deriving DecidableEq
inductive Cm where | eq | ne | lt | le | gt | ge | isN | isNN
  deriving DecidableEq
inductive Bi where | len | int | tuple | list | abs | max2 | min2 | gcd | all | any
  deriving DecidableEq
/-- what is walked -/
inductive SK where | seq | rng1 | rng2
  deriving DecidableEq

def mulOk (i j : Int) : Bool := decide (i.natAbs.log2 + j.natAbs.log2 < 1000000)
def divOk (j : Int) : Bool := decide (j ≠ 0) && decide (j.natAbs.log2 < 9000)
def opD (o : Op) (a b : D) : Option D :=
  match o with
  | .add => match a, b with
    | .int i, .int j => some (.int (i + j))
    | .str x, .str y => if x.length + y.length ≤ SL then some (.str (x ++ y)) else none
    | .lst xs, .lst ys => if xs.length + ys.length ≤ SL then some (.lst (xs ++ ys)) else none
    | _, _ => none
  | .sub => match a, b with
    | .int i, .int j => some (.int (i - j))
    | _, _ => none
  | .mul => match a, b with
    | .int i, .int j => if mulOk i j then some (.int (i * j)) else none
    | .lst xs, .int k => if decide (0 ≤ k) && decide (k < 4611686018427387904) && decide (xs.length * k.toNat ≤ SL) then some (.lst (List.replicate k.toNat xs).flatten) else none
    | _, _ => none
  | .fdiv => match a, b with
    | .int i, .int j => if divOk j then some (.int (i.fdiv j)) else none
    | _, _ => none
  | .mod => match a, b with
    | .int i, .int j => if decide (j ≠ 0) then some (.int (i.fmod j)) else none
    | _, _ => none
  | .pow => match a, b with
    | .int i, .int j => if decide (0 ≤ j) && decide (j ≤ 1000000) && decide (i.natAbs < 18446744073709551616) then some (.int (i ^ j.toNat)) else none
    | _, _ => none
def isNon : D → Bool
  | .non => true
  | _ => false
def cmpD (o : Cm) (a b : D) : Option Bool :=
  match o with
  | .eq => if dok 60 a && dok 60 b then some (eqD a b) else none
  | .ne => if dok 60 a && dok 60 b then some (!eqD a b) else none
  | .lt => match a, b with | .int i, .int j => some (decide (i < j)) | _, _ => none
  | .le => match a, b with | .int i, .int j => some (decide (i ≤ j)) | _, _ => none
  | .gt => match a, b with | .int i, .int j => some (decide (j < i)) | _, _ => none
  | .ge => match a, b with | .int i, .int j => some (decide (j ≤ i)) | _, _ => none
  | .isN => if isNon b then some (isNon a) else none
  | .isNN => if isNon b then some (!isNon a) else none
def ixNat (n : Nat) (i : Int) : Option Nat := if 0 ≤ i then (if i < n then some i.toNat else none) else if -(n : Int) ≤ i then some (i + n).toNat else none
def ixD (a b : D) : Option D :=
  match a, b with
  | .lst xs, .int i => (ixNat xs.length i).bind fun k => xs[k]?
  | .tup xs, .int i => (ixNat xs.length i).bind fun k => xs[k]?
  | .scr xs, .int i => (ixNat xs.length i).bind fun k => (xs[k]?).map .int
  | _, _ => none
def bools : List D → Option (List Bool)
  | [] => some []
  | .bl b :: r => (bools r).map (b :: ·)
  | _ :: _ => none
def biD (b : Bi) (xs : List D) : Option D :=
  match b with
  | .len => match xs with
    | [.lst ys] => some (.int ys.length)
    | [.tup ys] => some (.int ys.length)
    | [.scr ys] => some (.int ys.length)
    | [.str y] => if y.length ≤ SL then some (.int y.length) else none
    | _ => none
  | .int => match xs with
    | [.int i] => some (.int i)
    | [.bl k] => some (.int (if k then 1 else 0))
    | _ => none
  | .tuple => match xs with
    | [.lst ys] => some (.tup ys)
    | [.tup ys] => some (.tup ys)
    | _ => none
  | .list => match xs with
    | [.lst ys] => some (.lst ys)
    | [.tup ys] => some (.lst ys)
    | _ => none
  | .abs => match xs with
    | [.int i] => some (.int (if i < 0 then -i else i))
    | _ => none
  | .max2 => match xs with
    | [.int i, .int j] => some (.int (if j > i then j else i))
    | _ => none
  | .min2 => match xs with
    | [.int i, .int j] => some (.int (if j < i then j else i))
    | _ => none
  | .gcd => match xs with
    | [.int i, .int j] => some (.int ((Nat.gcd i.natAbs j.natAbs : Nat) : Int))
    | _ => none
  | .all => match xs with
    | [.lst ys] => (bools ys).map fun bs => .bl (bs.all id)
    | _ => none
  | .any => match xs with
    | [.lst ys] => (bools ys).map fun bs => .bl (bs.any id)
    | _ => none
/-- the built-in types: 0 int, 1 bool, 2 tuple, 3 str, 4 list -/
def tyTag : D → Option Nat
  | .non => some 9
  | .bl _ => some 1
  | .int _ => some 0
  | .str _ => some 3
  | .tup _ => some 2
  | .lst _ => some 4
  | _ => none
def isiD (t : Nat) (d : D) : Option Bool :=
  if t < 5 then (tyTag d).map fun k => k == t || (k == 1 && t == 0) else none

inductive Xn where | mk (c : Nat) (pl : Option D)
inductive Sl where | no | im (d : D) | ow (m : Bool) (d : D)
abbrev Env := List Sl
inductive Out (α : Type) where | ok (a : α) (e : Env) | exc (x : Xn) (e : Env) | bad
inductive Pd where | val (d : D) | pk (i : Nat)
def Sl.get : Sl → Option D
  | .no => none
  | .im d => some d
  | .ow _ d => some d
def gets (env : Env) (i : Nat) : Option D := (env[i]?).bind Sl.get
def Pd.get (p : Pd) (env : Env) : Option D :=
  match p with
  | .val d => some d
  | .pk i => gets env i
def Out.bind {α β : Type} (m : Out α) (k : α → Env → Out β) : Out β :=
  match m with
  | .ok a e => k a e
  | .exc x e => .exc x e
  | .bad => .bad
/-- no exception leaves -/
def Out.nox {α : Type} : Out α → Out α
  | .exc _ _ => .bad
  | m => m
/-- a value that is no borrowed name -/
def Out.val {β : Type} (m : Out Pd) (k : D → Env → Out β) : Out β := m.bind fun p e => match p with | .val d => k d e | .pk _ => .bad
def tst (p : Pd) (e : Env) : Out Bool := match (p.get e).bind truth with
  | none => .bad
  | some k => .ok k e
def ofO {α : Type} (o : Option α) (e : Env) : Out α := match o with | some a => .ok a e | none => .bad
def pdv (o : Option D) (e : Env) : Out Pd := match o with | some a => .ok (.val a) e | none => .bad

/-- the calls: a def's number, its arguments; its value and what its first parameter holds behind it -/
inductive CR where | ok (d out : D) | exc (x : Xn) | bad
abbrev Orc := Nat → List D → CR

inductive IE where
  | var (i : Nat) | pk (i : Nat) | nop
  | non | bl (b : Bool) | int (i : Int) | str (x : Str)
  | gc (k : Nat)
  | op (o : Op) (a b : IE) | neg (a : IE)
  | cmp (o : Cm) (a b : IE) | chn (o o' : Cm) (a b c : IE)
  | and (a b : IE) | or (a b : IE) | not (a : IE) | ite (t a b : IE)
  | tup (es : List IE) | lst (es : List IE) | star (e : IE)
  | ix (a b : IE)
  | call (f : Nat) (es : List IE) | calls (f : Nat) (es : List IE) | mcall (f : Nat) (i : Nat) (es : List IE)
  | fcall (f : Nat) (es : List IE) | tcall (f : Nat) (e : IE) (es : List IE)
  | bi (b : Bi) (es : List IE) | isi (t : Nat) (e : IE)
  | lc (elt : IE) (t : List Nat) (k : SK) (ss : List IE) (c : IE)

/-- the list that it gives is new -/
def freshB : IE → Bool
  | .lst _ => true
  | .lc _ _ _ _ _ => true
  | .op _ _ _ => true
  | .bi .list _ => true
  | .fcall _ _ => true
  | _ => false
def getsAll (env : Env) : List Pd → Option (List D)
  | [] => some []
  | p :: r => (p.get env).bind fun d => (getsAll env r).map (d :: ·)
def isPk : Pd → Bool
  | .pk _ => true
  | _ => false
/-- a list of upFrom lo, lo + 1, .. -/
def upFrom (lo : Int) : Nat → List D
  | 0 => []
  | n + 1 => .int lo :: upFrom (lo + 1) n
/-- the items that are walked -/
def items (k : SK) (xs : List D) : Option (List D) :=
  match k, xs with
  | .seq, [.lst ys] => some ys
  | .seq, [.tup ys] => some ys
  | .seq, [.scr ns] => some (ns.map .int)
  | .rng1, [.int n] => if decide (-4611686018427387904 ≤ n) && decide (n ≤ 16777216) then some (upFrom 0 n.toNat) else none
  | .rng2, [.int a, .int b] => if decide (-4611686018427387904 ≤ a) && decide (a < 4611686018427387904) && decide (-4611686018427387904 ≤ b) && decide (b < 4611686018427387904) && decide ((b - a).toNat ≤ SL) then some (upFrom a (b - a).toNat) else none
  | _, _ => none
/-- an item is put into the targets' slots -/
def putT (env : Env) : List Nat → List D → Option Env
  | [], [] => some env
  | i :: is, d :: ds => if i < env.length then putT (env.set i (.im d)) is ds else none
  | _, _ => none
def bindT (t : List Nat) (d : D) (env : Env) : Option Env :=
  match t with
  | [i] => if i < env.length then some (env.set i (.im d)) else none
  | is => match d with
    | .tup ds => putT env is ds
    | _ => none
def isNo : Sl → Bool
  | .no => true
  | _ => false
def isOw : Sl → Bool
  | .ow _ _ => true
  | _ => false
/-- the block's own slots forgotten -/
def wipeE (env : Env) : List Nat → Env
  | [] => env
  | i :: is => (wipeE env is).set i .no
/-- the slots at is are those of the elder -/
def backE (old env : Env) : List Nat → Env
  | [] => env
  | i :: is => (backE old env is).set i (old[i]?.getD .no)
/-- the turns of a comprehension -/
def lcL (elt : Env → Out Pd) (c : Env → Out Bool) (t : List Nat) (blank : Env → Env) : List D → Env → List D → Out (List D)
  | [], env, acc => .ok acc.reverse env
  | d :: ds, env, acc => match bindT t d (blank env) with
    | none => .bad
    | some e1 => (c e1).nox.bind fun k e2 => if k = true then (elt e2).nox.val fun y e3 => lcL elt c t blank ds e3 (y :: acc) else lcL elt c t blank ds e2 acc

mutual
def ev (C : Orc) (G : List D) : IE → Env → Out Pd
  | .var i, env => match env[i]? with
    | some (.im d) => .ok (.val d) env
    | some (.ow false d) => .ok (.val d) (env.set i (.im d))
    | _ => .bad
  | .pk i, env => match gets env i with
    | some _ => .ok (.pk i) env
    | none => .bad
  | .nop, _ => .bad
  | .non, env => .ok (.val .non) env
  | .bl b, env => .ok (.val (.bl b)) env
  | .int i, env => .ok (.val (.int i)) env
  | .str x, env => .ok (.val (.str x)) env
  | .gc k, env => pdv (G[k]?) env
  | .op o a b, env => (ev C G a env).bind fun p e1 => (ev C G b e1).bind fun q e2 => pdv ((p.get e2).bind fun x => (q.get e2).bind fun y => opD o x y) e2
  | .neg a, env => (ev C G a env).val fun x e1 => match x with | .int i => .ok (.val (.int (-i))) e1 | _ => .bad
  | .cmp o a b, env => (ev C G a env).bind fun p e1 => (ev C G b e1).bind fun q e2 => pdv ((p.get e2).bind fun x => (q.get e2).bind fun y => (cmpD o x y).map .bl) e2
  | .chn o o' a b c, env => (ev C G a env).val fun x e1 => (ev C G b e1).val fun y e2 => match cmpD o x y with
    | none => .bad
    | some false => .ok (.val (.bl false)) e2
    | some true => (ev C G c e2).val fun z e3 => pdv ((cmpD o' y z).map .bl) e3
  | .and a b, env => (ev C G a env).bind fun p e1 => match (p.get e1).bind truth with
    | none => .bad
    | some true => ev C G b e1
    | some false => .ok p e1
  | .or a b, env => (ev C G a env).bind fun p e1 => match (p.get e1).bind truth with
    | none => .bad
    | some true => .ok p e1
    | some false => ev C G b e1
  | .not a, env => (ev C G a env).bind fun p e1 => match (p.get e1).bind truth with
    | none => .bad
    | some k => .ok (.val (.bl (!k))) e1
  | .ite t a b, env => (ev C G t env).bind fun p e1 => match (p.get e1).bind truth with
    | none => .bad
    | some true => ev C G a e1
    | some false => ev C G b e1
  | .tup es, env => (evL C G es env).bind fun ds e1 => if ds.length ≤ SL then .ok (.val (.tup ds)) e1 else .bad
  | .lst es, env => (evL C G es env).bind fun ds e1 => if ds.length ≤ SL then .ok (.val (.lst ds)) e1 else .bad
  | .star _, _ => .bad
  | .ix a b, env => (ev C G a env).bind fun p e1 => (ev C G b e1).bind fun q e2 => pdv ((p.get e2).bind fun x => (q.get e2).bind fun y => ixD x y) e2
  | .call f es, env => (evP C G es env).bind fun ps e1 => match getsAll e1 ps with
    | none => .bad
    | some ds => match C f ds with
      | .ok d _ => if ps.any isPk && !flat d then .bad else .ok (.val d) e1
      | .exc x => if ps.any isPk then .bad else .exc x e1
      | .bad => .bad
  | .calls f es, env => (evL C G es env).bind fun ds e1 => if ds.length ≤ SL then (match C f [.tup ds] with
    | .ok d _ => .ok (.val d) e1
    | .exc x => .exc x e1
    | .bad => .bad) else .bad
  | .mcall f i es, env => if (gets env i).isNone then .bad else (evL C G es env).bind fun ds e1 => match e1[i]? with
    | some (.ow m (.lst d0)) => match C f (.lst d0 :: ds) with
      | .ok d (.lst d1) => .ok (.val d) (e1.set i (.ow m (.lst d1)))
      | _ => .bad
    | _ => .bad
  | .fcall f es, env => (evL C G es env).bind fun ds e1 => match C f ds with
    | .ok (.lst d) _ => .ok (.val (.lst d)) e1
    | .exc x => .exc x e1
    | _ => .bad
  | .tcall f e es, env => (ev C G e env).val fun d e1 => match d with
    | .lst d0 => (evL C G es e1).bind fun ds e2 => match C f (.lst d0 :: ds) with
      | .ok d (.lst _) => .ok (.val d) e2
      | _ => .bad
    | _ => .bad
  | .bi b es, env => (evP C G es env).bind fun ps e1 => pdv ((getsAll e1 ps).bind fun ds => biD b ds) e1
  | .isi t a, env => (ev C G a env).bind fun p e1 => pdv ((p.get e1).bind fun x => (isiD t x).map .bl) e1
  | .lc elt t k ss c, env => (evL C G ss env).bind fun ds e1 => match items k ds with
    | none => .bad
    | some ys => if t.any (fun i => isOw (e1[i]?.getD .no)) || !decide (ys.length ≤ SL) then .bad else
      (lcL (fun e => ev C G elt e) (fun e => match c with | .nop => .ok true e | _ => (ev C G c e).bind tst) t (fun e => wipeE e t) ys e1 []).bind fun zs e2 => .ok (.val (.lst zs)) (backE e1 e2 t)
def evL (C : Orc) (G : List D) : List IE → Env → Out (List D)
  | [], env => .ok [] env
  | e :: es, env => match e with
    | .star a => (ev C G a env).bind fun p e1 => match p.get e1 with
      | some (.lst xs) => (evL C G es e1).bind fun ys e2 => .ok (xs ++ ys) e2
      | some (.tup xs) => (evL C G es e1).bind fun ys e2 => .ok (xs ++ ys) e2
      | _ => .bad
    | e => (ev C G e env).val fun d e1 => (evL C G es e1).bind fun ys e2 => .ok (d :: ys) e2
def evP (C : Orc) (G : List D) : List IE → Env → Out (List Pd)
  | [], env => .ok [] env
  | e :: es, env => (ev C G e env).bind fun p e1 => (evP C G es e1).bind fun ys e2 => .ok (p :: ys) e2
end
end TT

set_option maxHeartbeats 4000000
namespace TT
open PySem L2

/-- the program as it stands: its written part, where its defs and classes are -/
structure Pg where
  K : PySem.W.Frag
  fa : Nat → Addr
  ca : Nat → Addr
  fld : Nat → Str
def tyNm : Nat → String
  | 0 => "int"
  | 1 => "bool"
  | 2 => "tuple"
  | 3 => "str"
  | _ => "list"

mutual
/-- v stands for d in H, none of the lists within at an address in A -/
def Rp (P : Pg) (H : Hp) (A : Addr → Prop) : V → D → Prop
  | v, .non => v = .non
  | v, .bl b => v = .bl b
  | v, .int i => v = .int i
  | v, .str x => v = .str x
  | v, .tup ds => ∃ a vs, v = .ref a ∧ SqT P.K H a vs ∧ Rps P H A vs ds
  | v, .lst ds => ∃ a vs, v = .ref a ∧ ¬ A a ∧ H a = some (.lst vs) ∧ Rps P H A vs ds
  | v, .scr ns => ∃ a, v = .ref a ∧ ((¬ A a ∧ Rd H a (.lst (ns.map V.int))) ∨ ∀ H', SqL P.K H' a (ns.map V.int))
  | v, .fn k => v = .ref (P.fa k)
  | v, .ty k => v = .ty (tyNm k)
def Rps (P : Pg) (H : Hp) (A : Addr → Prop) : List V → List D → Prop
  | vs, [] => vs = []
  | vs, d :: ds => ∃ v r, vs = v :: r ∧ Rp P H A v d ∧ Rps P H A r ds
end
/-- .. the root itself may be at an address in A -/
def RpP (P : Pg) (H : Hp) (A : Addr → Prop) (v : V) (d : D) : Prop :=
  match d with
  | .lst ds => ∃ a vs, v = .ref a ∧ H a = some (.lst vs) ∧ Rps P H A vs ds
  | d => Rp P H A v d

section
variable {P : Pg} {H H' : Hp} {A A' : Addr → Prop}
mutual
theorem Rp.imp (h1 : ∀ a vs, SqT P.K H a vs → SqT P.K H' a vs) (h2 : ∀ a o, ¬ A a → H a = some o → ¬ A' a ∧ H' a = some o) : ∀ {d : D} {v : V}, Rp P H A v d → Rp P H' A' v d
  | .non, _, h => h
  | .bl _, _, h => h
  | .int _, _, h => h
  | .str _, _, h => h
  | .fn _, _, h => h
  | .ty _, _, h => h
  | .tup ds, v, h => by
    obtain ⟨a, vs, e, q, r⟩ := h
    exact ⟨a, vs, e, h1 a vs q, Rps.imp h1 h2 r⟩
  | .lst ds, v, h => by
    obtain ⟨a, vs, e, n, q, r⟩ := h
    obtain ⟨n', q'⟩ := h2 a _ n q
    exact ⟨a, vs, e, n', q', Rps.imp h1 h2 r⟩
  | .scr ns, v, h => by
    obtain ⟨a, e, h⟩ := h
    refine ⟨a, e, ?_⟩
    rcases h with ⟨n, h | ⟨o, h⟩⟩ | h
    · obtain ⟨n', q'⟩ := h2 a _ n h
      exact .inl ⟨n', .inl q'⟩
    · obtain ⟨n', q'⟩ := h2 a _ n h
      exact .inl ⟨n', .inr ⟨o, q'⟩⟩
    · exact .inr h
theorem Rps.imp (h1 : ∀ a vs, SqT P.K H a vs → SqT P.K H' a vs) (h2 : ∀ a o, ¬ A a → H a = some o → ¬ A' a ∧ H' a = some o) : ∀ {ds : List D} {vs : List V}, Rps P H A vs ds → Rps P H' A' vs ds
  | [], _, h => h
  | d :: ds, vs, h => by
    obtain ⟨v, r, e, q, z⟩ := h
    exact ⟨v, r, e, Rp.imp h1 h2 q, Rps.imp h1 h2 z⟩
end
theorem Rps.length : ∀ {ds : List D} {vs : List V}, Rps P H A vs ds → vs.length = ds.length
  | [], _, h => by rw [h]; rfl
  | d :: ds, vs, h => by
    obtain ⟨v, r, e, _, z⟩ := h
    rw [e]
    simp [Rps.length z]
theorem Rps.get : ∀ {ds : List D} {vs : List V} {i : Nat} {d : D}, Rps P H A vs ds → ds[i]? = some d → ∃ v, vs[i]? = some v ∧ Rp P H A v d
  | [], _, _, _, _, h => by simp at h
  | d :: ds, vs, 0, d', h, q => by
    obtain ⟨v, r, e, z, _⟩ := h
    simp at q
    subst q
    exact ⟨v, by rw [e]; rfl, z⟩
  | d :: ds, vs, i + 1, d', h, q => by
    obtain ⟨v, r, e, _, z⟩ := h
    obtain ⟨w, h1, h2⟩ := Rps.get (i := i) z (by simpa using q)
    exact ⟨w, by rw [e]; simpa using h1, h2⟩
theorem Rps.app : ∀ {ds es : List D} {vs ws : List V}, Rps P H A vs ds → Rps P H A ws es → Rps P H A (vs ++ ws) (ds ++ es)
  | [], _, _, _, h, k => by rw [show _ = [] from h]; exact k
  | d :: ds, es, vs, ws, h, k => by
    obtain ⟨v, r, e, q, z⟩ := h
    rw [e]
    exact ⟨v, r ++ ws, rfl, q, Rps.app z k⟩
theorem Rps.nil : Rps P H A [] [] := rfl
theorem Rps.cons {v : V} {vs : List V} {d : D} {ds : List D} (h : Rp P H A v d) (k : Rps P H A vs ds) : Rps P H A (v :: vs) (d :: ds) := ⟨v, vs, rfl, h, k⟩
theorem Rps.uncons {vs : List V} {d : D} {ds : List D} (h : Rps P H A vs (d :: ds)) : ∃ v r, vs = v :: r ∧ Rp P H A v d ∧ Rps P H A r ds := h
theorem Rps.set : ∀ {ds : List D} {vs : List V} {v : V} {d : D} (i : Nat), Rps P H A vs ds → Rp P H A v d → Rps P H A (vs.set i v) (ds.set i d)
  | [], _, _, _, _, h, _ => by rw [show _ = [] from h]; rfl
  | d :: ds, vs, v, d', 0, h, k => by
    obtain ⟨w, r, e, _, z⟩ := h
    rw [e]
    exact ⟨v, r, rfl, k, z⟩
  | d :: ds, vs, v, d', i + 1, h, k => by
    obtain ⟨w, r, e, q, z⟩ := h
    rw [e]
    exact ⟨w, r.set i v, rfl, q, Rps.set i z k⟩
theorem Rps.take : ∀ {ds : List D} {vs : List V} (n : Nat), Rps P H A vs ds → Rps P H A (vs.take n) (ds.take n)
  | _, _, 0, _ => rfl
  | [], _, n + 1, h => by rw [show _ = [] from h]; rfl
  | d :: ds, vs, n + 1, h => by
    obtain ⟨w, r, e, q, z⟩ := h
    rw [e]
    exact ⟨w, r.take n, rfl, q, Rps.take n z⟩
theorem Rps.drop : ∀ {ds : List D} {vs : List V} (n : Nat), Rps P H A vs ds → Rps P H A (vs.drop n) (ds.drop n)
  | _, _, 0, h => h
  | [], _, n + 1, h => by rw [show _ = [] from h]; rfl
  | d :: ds, vs, n + 1, h => by
    obtain ⟨w, r, e, q, z⟩ := h
    rw [e]
    exact Rps.drop n z
theorem Rps.rep {ds : List D} {vs : List V} (h : Rps P H A vs ds) : ∀ k : Nat, Rps P H A (List.replicate k vs).flatten (List.replicate k ds).flatten
  | 0 => rfl
  | k + 1 => by
    rw [List.replicate_succ, List.replicate_succ, List.flatten_cons, List.flatten_cons]
    exact h.app (Rps.rep h k)
theorem RpP.of {v : V} {d : D} (h : Rp P H A v d) : RpP P H A v d := by
  cases d with
  | lst ds =>
    obtain ⟨a, vs, e, _, q, r⟩ := h
    exact ⟨a, vs, e, q, r⟩
  | _ => exact h
theorem Rp.flat_imp' (A' : Addr → Prop) (h : True) : True := trivial
mutual
theorem Rp.flat : ∀ {d : D} {v : V}, flat d = true → Rp P H A v d → Rp P H A' v d
  | .non, _, _, h => h
  | .bl _, _, _, h => h
  | .int _, _, _, h => h
  | .str _, _, _, h => h
  | .fn _, _, _, h => h
  | .ty _, _, _, h => h
  | .tup ds, v, f, h => by
    obtain ⟨a, vs, e, q, r⟩ := h
    exact ⟨a, vs, e, q, Rps.flat f r⟩
  | .lst ds, v, f, h => by simp [TT.flat] at f
  | .scr ds, v, f, h => by simp [TT.flat] at f
theorem Rps.flat : ∀ {ds : List D} {vs : List V}, flats ds = true → Rps P H A vs ds → Rps P H A' vs ds
  | [], _, _, h => h
  | d :: ds, vs, f, h => by
    obtain ⟨v, r, e, q, z⟩ := h
    simp only [flats, Bool.and_eq_true] at f
    exact ⟨v, r, e, Rp.flat f.1 q, Rps.flat f.2 z⟩
end
end

/-- one call of a def: its entry heap, what its values must stay away from, its first parameter's own address where it changes that -/
structure Frm where
  P : Pg
  H0 : Hp
  Z : Addr → Prop
  M : Addr → Prop
/-- an address that a slot owns -/
def Ow (σ : L2.St) (env : Env) (a : Addr) : Prop := ∃ (i : Nat) (m : Bool) (d : D), env[i]? = some (.ow m d) ∧ σ[i]? = some (some (V.ref a))
def Av (F : Frm) (σ : L2.St) (env : Env) (a : Addr) : Prop := F.Z a ∨ Ow σ env a
structure EnvOk (F : Frm) (σ : L2.St) (H : Hp) (env : Env) : Prop where
  len : env.length = σ.length
  im : ∀ (i : Nat) (d : D), env[i]? = some (.im d) → ∃ v, σ[i]? = some (some v) ∧ Rp F.P H (Av F σ env) v d
  ow : ∀ (i : Nat) (m : Bool) (d : D), env[i]? = some (.ow m d) → ∃ a vs ds, d = .lst ds ∧ σ[i]? = some (some (V.ref a)) ∧ H a = some (.lst vs) ∧ Rps F.P H (Av F σ env) vs ds ∧ (m = false → F.H0 a = none ∧ ¬ F.Z a) ∧ (m = true → F.M a)
  un : ∀ (i j : Nat) (m n : Bool) (d e : D) (a : Addr), env[i]? = some (.ow m d) → σ[i]? = some (some (V.ref a)) → env[j]? = some (.ow n e) → σ[j]? = some (some (V.ref a)) → i = j
  z : ∀ a, F.Z a → H a ≠ none
  fr : ∀ a o, F.H0 a = some o → ¬ F.M a → H a = some o
  mutd : ∀ a, F.M a → ∃ xs, H a = some (.lst xs)
/-- from one state to a later one: only owned lists change, what is owned is owned already or new -/
structure Adv (σ : L2.St) (env : Env) (H : Hp) (σ' : L2.St) (env' : Env) (H' : Hp) : Prop where
  ow : ∀ a, Ow σ' env' a → Ow σ env a ∨ H a = none
  st : ∀ a o, H a = some o → ¬ Ow σ env a → H' a = some o
  tr : ∀ a, H a ≠ none → H' a ≠ none
theorem Adv.refl {σ : L2.St} {env : Env} {H : Hp} : Adv σ env H σ env H := ⟨fun _ h => .inl h, fun _ _ h _ => h, fun _ h => h⟩
theorem Adv.trans {σ1 σ2 σ3 : L2.St} {e1 e2 e3 : Env} {H1 H2 H3 : Hp} (a : Adv σ1 e1 H1 σ2 e2 H2) (b : Adv σ2 e2 H2 σ3 e3 H3) : Adv σ1 e1 H1 σ3 e3 H3 where
  ow := fun x h => by
    rcases b.ow x h with q | q
    · exact a.ow x q
    · by_cases n : H1 x = none
      · exact .inr n
      · exact absurd q (a.tr x n)
  st := fun x o h n => b.st x o (a.st x o h n) fun w => by
    rcases a.ow x w with q | q
    · exact n q
    · rw [q] at h; cases h
  tr := fun x h => b.tr x (a.tr x h)

theorem Adv.nones {σ σ' : L2.St} {e e' : Env} {H H' : Hp} (a : Adv σ e H σ' e' H') : ∀ p, H' p = none → H p = none := fun p h => by
  cases q : H p with
  | none => rfl
  | some o => exact absurd h (a.tr p (by rw [q]; simp))
section
variable {F : Frm} {σ σ' : L2.St} {H H' : Hp} {env env' : Env}
theorem EnvOk.ow_lst (E : EnvOk F σ H env) {a : Addr} (h : Ow σ env a) : ∃ vs, H a = some (.lst vs) := by
  obtain ⟨i, m, d, h1, h2⟩ := h
  obtain ⟨a', vs, ds, _, h3, h4, _⟩ := E.ow i m d h1
  rw [h2] at h3
  cases h3
  exact ⟨vs, h4⟩
theorem EnvOk.av_tr (E : EnvOk F σ H env) {a : Addr} (h : Av F σ env a) : H a ≠ none := by
  rcases h with h | h
  · exact E.z a h
  · obtain ⟨vs, e⟩ := E.ow_lst h
    rw [e]; simp
theorem EnvOk.tupStay (E : EnvOk F σ H env) (A : Adv σ env H σ' env' H') {a : Addr} {vs : List V} (h : SqT F.P.K H a vs) : SqT F.P.K H' a vs := by
  rcases h with (h | ⟨o, h⟩) | h
  · refine .inl (.inl (A.st a _ h fun w => ?_))
    obtain ⟨ws, e⟩ := E.ow_lst w
    rw [h] at e; cases e
  · refine .inl (.inr ⟨o, A.st a _ h fun w => ?_⟩)
    obtain ⟨ws, e⟩ := E.ow_lst w
    rw [h] at e; cases e
  · exact .inr h
theorem EnvOk.lstStay (E : EnvOk F σ H env) (A : Adv σ env H σ' env' H') {a : Addr} {o : HO} (n : ¬ Av F σ env a) (h : H a = some o) : ¬ Av F σ' env' a ∧ H' a = some o := by
  have no : ¬ Ow σ env a := fun w => n (.inr w)
  have tr : H a ≠ none := by rw [h]; simp
  refine ⟨fun w => ?_, A.st a _ h no⟩
  rcases w with w | w
  · exact n (.inl w)
  · rcases A.ow a w with q | q
    · exact no q
    · exact tr q
/-- a value stays what it stands for -/
theorem EnvOk.stay (E : EnvOk F σ H env) (A : Adv σ env H σ' env' H') {v : V} {d : D} (h : Rp F.P H (Av F σ env) v d) : Rp F.P H' (Av F σ' env') v d :=
  Rp.imp (fun _ _ q => E.tupStay A q) (fun _ _ n q => E.lstStay A n q) h
theorem EnvOk.stays (E : EnvOk F σ H env) (A : Adv σ env H σ' env' H') {vs : List V} {ds : List D} (h : Rps F.P H (Av F σ env) vs ds) : Rps F.P H' (Av F σ' env') vs ds :=
  Rps.imp (fun _ _ q => E.tupStay A q) (fun _ _ n q => E.lstStay A n q) h
/-- what an evaluated operand stands for -/
def PdOk (F : Frm) (σ : L2.St) (H : Hp) (env : Env) (v : V) : Pd → Prop
  | .val d => Rp F.P H (Av F σ env) v d
  | .pk i => σ[i]? = some (some v)
theorem EnvOk.get (E : EnvOk F σ H env) {i : Nat} {d : D} {v : V} (h : gets env i = some d) (hv : σ[i]? = some (some v)) : RpP F.P H (Av F σ env) v d := by
  unfold gets at h
  cases e : env[i]? with
  | none => rw [e] at h; cases h
  | some s =>
    rw [e] at h
    cases s with
    | no => cases h
    | im d' =>
      cases h
      obtain ⟨w, h1, h2⟩ := E.im i d e
      rw [hv] at h1
      cases h1
      exact .of h2
    | ow m d' =>
      cases h
      obtain ⟨a, vs, ds, h0, h1, h2, h3, _⟩ := E.ow i m d e
      rw [hv] at h1
      cases h1
      subst h0
      exact ⟨a, vs, rfl, h2, h3⟩
theorem EnvOk.pd (E : EnvOk F σ H env) {p : Pd} {d : D} {v : V} (h : PdOk F σ H env v p) (k : p.get env = some d) : RpP F.P H (Av F σ env) v d := by
  cases p with
  | val d' => cases k; exact .of h
  | pk i => exact E.get k h
theorem EnvOk.pdStay (E : EnvOk F σ H env) (A : Adv σ env H σ env' H') {p : Pd} {v : V} (h : PdOk F σ H env v p) : PdOk F σ H' env' v p := by
  cases p with
  | val d => exact E.stay A h
  | pk i => exact h

/-! ### the heap grows by an object -/
theorem Adv.grow {p : Addr} {o : HO} (h : H p = none) : Adv σ env H σ env (upd H p o) where
  ow := fun _ h => .inl h
  st := fun a u e _ => by rw [upd_ne (ne_of_none e h)]; exact e
  tr := fun a n => by
    by_cases q : a = p
    · rw [q, upd_same]; simp
    · rw [upd_ne q]; exact n
theorem Adv.same (hst : ∀ a o, H a = some o → H' a = some o) : Adv σ env H σ env H' where
  ow := fun _ h => .inl h
  st := fun a u e _ => hst a u e
  tr := fun a n => by
    cases e : H a with
    | none => exact absurd e n
    | some o => rw [hst a o e]; simp
theorem EnvOk.mono (E : EnvOk F σ H env) (hst : ∀ a o, H a = some o → H' a = some o) : EnvOk F σ H' env where
  len := E.len
  im := fun i d h => by
    obtain ⟨v, h1, h2⟩ := E.im i d h
    exact ⟨v, h1, E.stay (Adv.same hst) h2⟩
  ow := fun i m d h => by
    obtain ⟨a, vs, ds, h0, h1, h2, h3, h4⟩ := E.ow i m d h
    exact ⟨a, vs, ds, h0, h1, hst _ _ h2, E.stays (Adv.same hst) h3, h4⟩
  un := E.un
  z := fun a w => (Adv.same (σ := σ) (env := env) hst).tr a (E.z a w)
  fr := fun a o h m => hst _ _ (E.fr a o h m)
  mutd := fun a m => by
    obtain ⟨xs, e⟩ := E.mutd a m
    exact ⟨xs, hst _ _ e⟩
theorem grow_st {p : Addr} {o : HO} (h : H p = none) : ∀ a u, H a = some u → upd H p o a = some u := fun a u e => by rw [upd_ne (ne_of_none e h)]; exact e
theorem EnvOk.grow (E : EnvOk F σ H env) {p : Addr} {o : HO} (h : H p = none) : EnvOk F σ (upd H p o) env := E.mono (grow_st h)
theorem EnvOk.new_nav (E : EnvOk F σ H env) {p : Addr} (h : H p = none) : ¬ Av F σ env p := fun w => E.av_tr w h
theorem EnvOk.newTup (E : EnvOk F σ H env) {p : Addr} {vs : List V} {ds : List D} (h : H p = none) (r : Rps F.P H (Av F σ env) vs ds) : Rp F.P (upd H p (.tup vs)) (Av F σ env) (.ref p) (.tup ds) :=
  ⟨p, vs, rfl, .inl (.inl upd_same), E.stays (Adv.grow h) r⟩
theorem EnvOk.newLst (E : EnvOk F σ H env) {p : Addr} {vs : List V} {ds : List D} (h : H p = none) (r : Rps F.P H (Av F σ env) vs ds) : Rp F.P (upd H p (.lst vs)) (Av F σ env) (.ref p) (.lst ds) :=
  ⟨p, vs, rfl, E.new_nav h, upd_same, E.stays (Adv.grow h) r⟩

/-! ### slots -/
theorem env_set {i j : Nat} {s t : Sl} (h : (env.set i s)[j]? = some t) : (j = i ∧ t = s ∧ i < env.length) ∨ (j ≠ i ∧ env[j]? = some t) := by
  by_cases e : i = j
  · subst e
    by_cases hi : i < env.length
    · rw [List.getElem?_set_self hi] at h
      exact .inl ⟨rfl, (Option.some.inj h).symm, hi⟩
    · rw [List.getElem?_eq_none (by simpa using hi)] at h
      cases h
  · rw [List.getElem?_set_ne e] at h
    exact .inr ⟨fun q => e q.symm, h⟩
/-- a slot is stored that owns nothing, or not set: its former owner is gone -/
theorem ow_put {i : Nat} {s : Sl} {w : Option V} {a : Addr} (hs : isOw s = false) (h : Ow (σ.set i w) (env.set i s) a) : Ow σ env a ∧ ∃ j m d, j ≠ i ∧ env[j]? = some (.ow m d) ∧ σ[j]? = some (some (V.ref a)) := by
  obtain ⟨j, m, e, h1, h2⟩ := h
  rcases env_set h1 with ⟨_, q, _⟩ | ⟨n, q⟩
  · rw [← q] at hs; cases hs
  · rw [List.getElem?_set_ne (Ne.symm n)] at h2
    exact ⟨⟨j, m, e, q, h2⟩, j, m, e, n, q, h2⟩
theorem Adv.put {i : Nat} {s : Sl} {w : Option V} (hs : isOw s = false) : Adv σ env H (σ.set i w) (env.set i s) H := ⟨fun _ h => .inl (ow_put hs h).1, fun _ _ h _ => h, fun _ h => h⟩
/-- the slots change in kind alone or are stored: EnvOk stays, if the new slot is right -/
theorem EnvOk.put (E : EnvOk F σ H env) {i : Nat} {s : Sl} {w : Option V} (hs : isOw s = false)
    (h : ∀ d, s = .im d → ∃ v, w = some v ∧ Rp F.P H (Av F (σ.set i w) (env.set i s)) v d) : EnvOk F (σ.set i w) H (env.set i s) where
  len := by rw [List.length_set, List.length_set]; exact E.len
  im := fun j d q => by
    rcases env_set q with ⟨e1, e2, hi⟩ | ⟨n, q⟩
    · subst e1
      obtain ⟨v, hw, r⟩ := h d e2.symm
      refine ⟨v, ?_, r⟩
      rw [List.getElem?_set_self (by rw [← E.len]; exact hi), hw]
    · obtain ⟨v, h1, h2⟩ := E.im j d q
      exact ⟨v, by rw [List.getElem?_set_ne (Ne.symm n)]; exact h1, E.stay (Adv.put hs) h2⟩
  ow := fun j m d q => by
    rcases env_set q with ⟨_, e2, _⟩ | ⟨n, q⟩
    · rw [← e2] at hs; cases hs
    · obtain ⟨a, vs, ds, h0, h1, h2, h3, h4⟩ := E.ow j m d q
      exact ⟨a, vs, ds, h0, by rw [List.getElem?_set_ne (Ne.symm n)]; exact h1, h2, E.stays (Adv.put hs) h3, h4⟩
  un := fun j k m n d e a q1 q2 q3 q4 => by
    rcases env_set q1 with ⟨_, e2, _⟩ | ⟨n1, q1⟩
    · rw [← e2] at hs; cases hs
    rcases env_set q3 with ⟨_, e2, _⟩ | ⟨n3, q3⟩
    · rw [← e2] at hs; cases hs
    rw [List.getElem?_set_ne (Ne.symm n1)] at q2
    rw [List.getElem?_set_ne (Ne.symm n3)] at q4
    exact E.un j k m n d e a q1 q2 q3 q4
  z := E.z
  fr := E.fr
  mutd := E.mutd
theorem set_get_self {α : Type} {l : List α} {i : Nat} {x : α} (h : l[i]? = some x) : l.set i x = l := by
  apply List.ext_getElem?
  intro j
  by_cases e : i = j
  · subst e
    rw [List.getElem?_set_self (List.getElem?_eq_some_iff.mp h).1, h]
  · rw [List.getElem?_set_ne e]
/-- a slot's owner lets go -/
theorem EnvOk.drop (E : EnvOk F σ H env) {i : Nat} {d : D} (h : env[i]? = some (.ow false d)) : EnvOk F σ H (env.set i (.im d)) ∧ Adv σ env H σ (env.set i (.im d)) H ∧ ∃ v, σ[i]? = some (some v) ∧ Rp F.P H (Av F σ (env.set i (.im d))) v d := by
  obtain ⟨a, vs, ds, h0, h1, h2, h3, h4, _⟩ := E.ow i false d h
  have es : σ.set i (some (V.ref a)) = σ := set_get_self h1
  have A : Adv σ env H σ (env.set i (.im d)) H := by
    have q := Adv.put (σ := σ) (env := env) (H := H) (i := i) (s := .im d) (w := some (V.ref a)) rfl
    rw [es] at q
    exact q
  have r : Rp F.P H (Av F σ (env.set i (.im d))) (.ref a) d := by
    subst h0
    refine ⟨a, vs, rfl, fun w => ?_, h2, E.stays A h3⟩
    rcases w with w | w
    · exact (h4 rfl).2 w
    · have w' : Ow (σ.set i (some (V.ref a))) (env.set i (.im (.lst ds))) a := by rw [es]; exact w
      obtain ⟨_, j, m, e, n, q1, q2⟩ := ow_put rfl w'
      exact n (E.un j i m false e _ a q1 q2 h h1)
  have q := E.put (i := i) (s := .im d) (w := some (V.ref a)) rfl fun d' e => by
    cases e
    exact ⟨_, rfl, by rw [es]; exact r⟩
  rw [es] at q
  exact ⟨q, A, _, h1, r⟩
/-- an owned list changes -/
theorem EnvOk.change (E : EnvOk F σ H env) {i : Nat} {m : Bool} {d : D} {a : Addr} {ws : List V} {es : List D} (h : env[i]? = some (.ow m d)) (h1 : σ[i]? = some (some (V.ref a))) (hH : ∀ b o, b ≠ a → H b = some o → H' b = some o) (hn : H' a = some (.lst ws))
    (hr : Rps F.P H' (Av F σ env) ws es) : EnvOk F σ H' (env.set i (.ow m (.lst es))) ∧ Adv σ env H σ (env.set i (.ow m (.lst es))) H' := by
  obtain ⟨a', vs, ds, h0, h1', h2, h3, h4⟩ := E.ow i m d h
  rw [h1] at h1'
  cases h1'
  have hi : i < env.length := (List.getElem?_eq_some_iff.mp h).1
  have oe : ∀ b, Ow σ (env.set i (.ow m (.lst es))) b ↔ Ow σ env b := fun b => by
    constructor
    · rintro ⟨j, n, e, q1, q2⟩
      rcases env_set q1 with ⟨e1, e2, _⟩ | ⟨_, q⟩
      · subst e1
        exact ⟨j, m, d, h, q2⟩
      · exact ⟨j, n, e, q, q2⟩
    · rintro ⟨j, n, e, q1, q2⟩
      by_cases z : i = j
      · subst z
        exact ⟨i, m, .lst es, List.getElem?_set_self hi, q2⟩
      · exact ⟨j, n, e, by rw [List.getElem?_set_ne z]; exact q1, q2⟩
  have oa : Ow σ env a := ⟨i, m, d, h, h1⟩
  have A : Adv σ env H σ (env.set i (.ow m (.lst es))) H' := ⟨fun b w => .inl ((oe b).mp w), fun b o q n => hH b o (fun z => n (by rw [z]; exact oa)) q, fun b n => by
    by_cases z : b = a
    · rw [z, hn]; simp
    · cases q : H b with
      | none => exact absurd q n
      | some o => rw [hH b o z q]; simp⟩
  have av : Av F σ (env.set i (.ow m (.lst es))) = Av F σ env := by
    funext b
    unfold Av
    rw [propext (oe b)]
  refine ⟨⟨by rw [List.length_set]; exact E.len, fun j e q => ?_, fun j n e q => ?_, fun j k n1 n2 e1 e2 b q1 q2 q3 q4 => ?_, fun b w => A.tr b (E.z b w), fun b o q n => ?_, fun b n => ?_⟩, A⟩
  · rcases env_set q with ⟨_, e2, _⟩ | ⟨_, q⟩
    · cases e2
    · obtain ⟨v, z1, z2⟩ := E.im j e q
      exact ⟨v, z1, E.stay A z2⟩
  · rcases env_set q with ⟨e1, e2, _⟩ | ⟨_, q⟩
    · subst e1
      cases e2
      exact ⟨a, ws, es, rfl, h1, hn, by rw [av]; exact hr, h4⟩
    · obtain ⟨b, us, bs, z0, z1, z2, z3, z4⟩ := E.ow j n e q
      rename_i nj
      have nb : b ≠ a := fun z => nj (E.un j i n m e d a q (by rw [← z]; exact z1) h h1)
      exact ⟨b, us, bs, z0, z1, hH b _ nb z2, E.stays A z3, z4⟩
  · have f : ∀ {x : Nat} {n : Bool} {e : D}, (env.set i (.ow m (.lst es)))[x]? = some (.ow n e) → ∃ n' e', env[x]? = some (.ow n' e') := fun {x n e} q => by
      rcases env_set q with ⟨e1, _, _⟩ | ⟨_, q⟩
      · subst e1; exact ⟨m, d, h⟩
      · exact ⟨n, e, q⟩
    obtain ⟨_, _, f1⟩ := f q1
    obtain ⟨_, _, f3⟩ := f q3
    exact E.un j k _ _ _ _ b f1 q2 f3 q4
  · have q2 := E.fr b o q n
    refine hH b o (fun z => ?_) q2
    subst z
    cases m with
    | false => rw [(h4.1 rfl).1] at q; cases q
    | true => exact n (h4.2 rfl)
  · obtain ⟨xs, q⟩ := E.mutd b n
    by_cases z : b = a
    · exact ⟨ws, by rw [z]; exact hn⟩
    · exact ⟨xs, hH b _ z q⟩
theorem Av_ow {i : Nat} {m : Bool} {d d' : D} (h : env[i]? = some (.ow m d)) : Av F σ (env.set i (.ow m d')) = Av F σ env := by
  have hi : i < env.length := (List.getElem?_eq_some_iff.mp h).1
  funext b
  unfold Av
  have oe : Ow σ (env.set i (.ow m d')) b ↔ Ow σ env b := by
    constructor
    · rintro ⟨j, n, e, q1, q2⟩
      rcases env_set q1 with ⟨e1, e2, _⟩ | ⟨_, q⟩
      · subst e1
        exact ⟨j, m, d, h, q2⟩
      · exact ⟨j, n, e, q, q2⟩
    · rintro ⟨j, n, e, q1, q2⟩
      by_cases z : i = j
      · subst z
        exact ⟨i, m, d', List.getElem?_set_self hi, q2⟩
      · exact ⟨j, n, e, by rw [List.getElem?_set_ne z]; exact q1, q2⟩
  rw [propext oe]
/-- a fresh list is stored and owned -/
theorem EnvOk.own (E : EnvOk F σ H env) {i : Nat} {a : Addr} {vs : List V} {ds : List D} (hi : i < env.length) (h0 : F.H0 a = none) (hna : ¬ Av F σ env a) (hH : H a = some (.lst vs))
    (hav : ∀ (j : Nat) (d : D), j ≠ i → env[j]? = some (.im d) → ∃ v, σ[j]? = some (some v) ∧ Rp F.P H (fun b => Av F σ env b ∨ b = a) v d)
    (hao : ∀ (j : Nat) (m : Bool) (d : D), j ≠ i → env[j]? = some (.ow m d) → ∃ b us bs, d = .lst bs ∧ σ[j]? = some (some (V.ref b)) ∧ H b = some (.lst us) ∧ Rps F.P H (fun b => Av F σ env b ∨ b = a) us bs)
    (hr : Rps F.P H (fun b => Av F σ env b ∨ b = a) vs ds) : EnvOk F (σ.set i (some (V.ref a))) H (env.set i (.ow false (.lst ds))) := by
  have hi' : i < σ.length := by rw [← E.len]; exact hi
  have sub : ∀ b, Av F (σ.set i (some (V.ref a))) (env.set i (.ow false (.lst ds))) b → Av F σ env b ∨ b = a := fun b w => by
    rcases w with w | ⟨j, m, d, q1, q2⟩
    · exact .inl (.inl w)
    · rcases env_set q1 with ⟨e1, _, _⟩ | ⟨n, q⟩
      · subst e1
        rw [List.getElem?_set_self hi'] at q2
        cases q2
        exact .inr rfl
      · rw [List.getElem?_set_ne (Ne.symm n)] at q2
        exact .inl (.inr ⟨j, m, d, q, q2⟩)
  have down : ∀ {v : V} {d : D}, Rp F.P H (fun b => Av F σ env b ∨ b = a) v d → Rp F.P H (Av F (σ.set i (some (V.ref a))) (env.set i (.ow false (.lst ds)))) v d :=
    fun {v d} r => Rp.imp (fun _ _ q => q) (fun b _ n q => ⟨fun w => n (sub b w), q⟩) r
  have downs : ∀ {vs : List V} {es : List D}, Rps F.P H (fun b => Av F σ env b ∨ b = a) vs es → Rps F.P H (Av F (σ.set i (some (V.ref a))) (env.set i (.ow false (.lst ds)))) vs es :=
    fun {v d} r => Rps.imp (fun _ _ q => q) (fun b _ n q => ⟨fun w => n (sub b w), q⟩) r
  refine ⟨by rw [List.length_set, List.length_set]; exact E.len, fun j e q => ?_, fun j m e q => ?_, fun j k n1 n2 e1 e2 b q1 q2 q3 q4 => ?_, E.z, E.fr, E.mutd⟩
  · rcases env_set q with ⟨_, e2, _⟩ | ⟨n, q⟩
    · cases e2
    · obtain ⟨v, z1, z2⟩ := hav j e n q
      exact ⟨v, by rw [List.getElem?_set_ne (Ne.symm n)]; exact z1, down z2⟩
  · rcases env_set q with ⟨e1, e2, _⟩ | ⟨n, q⟩
    · subst e1
      cases e2
      exact ⟨a, vs, ds, rfl, by rw [List.getElem?_set_self hi'], hH, downs hr, fun _ => ⟨h0, fun w => hna (.inl w)⟩, fun z => by cases z⟩
    · obtain ⟨b, us, bs, z0, z1, z2, z3⟩ := hao j m e n q
      obtain ⟨b', _, _, _, y1, _, _, y4⟩ := E.ow j m e q
      rw [z1] at y1
      cases y1
      exact ⟨b, us, bs, z0, by rw [List.getElem?_set_ne (Ne.symm n)]; exact z1, z2, downs z3, y4⟩
  · have f : ∀ {x : Nat} {n : Bool} {e : D}, (env.set i (.ow false (.lst ds)))[x]? = some (.ow n e) → (σ.set i (some (V.ref a)))[x]? = some (some (V.ref b)) → (x = i ∧ b = a) ∨ (x ≠ i ∧ env[x]? = some (.ow n e) ∧ σ[x]? = some (some (V.ref b))) := fun {x n e} q r => by
      rcases env_set q with ⟨e1, _, _⟩ | ⟨n, q⟩
      · subst e1
        rw [List.getElem?_set_self hi'] at r
        cases r
        exact .inl ⟨rfl, rfl⟩
      · rw [List.getElem?_set_ne (Ne.symm n)] at r
        exact .inr ⟨n, q, r⟩
    rcases f q1 q2 with ⟨x1, x2⟩ | ⟨_, x1, x2⟩
    · rcases f q3 q4 with ⟨y1, _⟩ | ⟨_, y1, y2⟩
      · rw [x1, y1]
      · rw [x2] at y2
        exact absurd (.inr ⟨k, n2, e2, y1, y2⟩) hna
    · rcases f q3 q4 with ⟨y1, y2⟩ | ⟨_, y1, y2⟩
      · rw [y2] at x2
        exact absurd (.inr ⟨j, n1, e1, x1, x2⟩) hna
      · exact E.un j k n1 n2 e1 e2 b x1 x2 y1 y2
end
end TT

set_option maxHeartbeats 4000000
namespace TT
open PySem L2 PySem.Spec PyProof.Rows

/-! ### what a text must be for an IR -/
/-- how a def is called: plainly; its first parameter changes; all arguments in one tuple; plainly, and gives a new list -/
inductive DK where | plain | mutd | star | frsh
  deriving DecidableEq
structure CK where
  N : List Str
  fn : List Str
  kd : List DK
  gc : List Str
def visB (sc : Scope) (x : Str) : Bool := match sc.names.lookup x with
  | some .local => true
  | some .cell => true
  | some .free => true
  | _ => false
def glB (sc : Scope) (x : Str) : Bool := match sc.names.lookup x with
  | some .globalImplicit => true
  | _ => false
def nodb (x : Str) : Bool := !(x == ("__debug__" : Str)) && !(x == ("__classdict__" : Str))
def nmB (S : CK) (sc : Scope) (i : Nat) (x : Str) : Bool := decide (S.N[i]? = some x) && visB sc x && nodb x
def opOf : Op → Operator
  | .add => .Add
  | .sub => .Sub
  | .mul => .Mult
  | .fdiv => .FloorDiv
  | .mod => .Mod
  | .pow => .Pow
def cmOf : Cm → CmpOp
  | .eq => .Eq
  | .ne => .NotEq
  | .lt => .Lt
  | .le => .LtE
  | .gt => .Gt
  | .ge => .GtE
  | .isN => .Is
  | .isNN => .IsNot
def biNm : Bi → Str
  | .len => "len"
  | .int => "int"
  | .tuple => "tuple"
  | .list => "list"
  | .abs => "abs"
  | .max2 => "max"
  | .min2 => "min"
  | .gcd => "gcd"
  | .all => "all"
  | .any => "any"
def plainIxB : Expr → Bool
  | .Slice _ _ _ _ => false
  | _ => true
def plainTB : Expr → Bool
  | .UnaryOp _ _ _ => false
  | .BoolOp _ _ _ => false
  | .IfExp _ _ _ _ => false
  | .Compare _ _ _ _ => false
  | _ => true
def noStar : Expr → Bool
  | .Starred _ _ => false
  | _ => true
def noSet : Expr → Bool
  | .Set _ _ _ => false
  | _ => true
def isNop : IE → Bool
  | .nop => true
  | _ => false
def tyNmS (t : Nat) : Str := match t with
  | 0 => "int"
  | 1 => "bool"
  | 2 => "tuple"
  | 3 => "str"
  | _ => "list"
/-- a target; cl: a cell may be stored, too -/
def locB (sc : Scope) (cl : Bool) (x : Str) : Bool := match sc.names.lookup x with
  | some .local => true
  | some .cell => cl
  | _ => false
def tg1B (S : CK) (sc : Scope) (cl : Bool) (i : Nat) : Expr → Bool
  | .Name x _ => decide (S.N[i]? = some x) && locB sc cl x
  | _ => false
def tgsB (S : CK) (sc : Scope) (cl : Bool) : List Nat → List Expr → Bool
  | [], [] => true
  | i :: is, e :: es => tg1B S sc cl i e && tgsB S sc cl is es
  | _, _ => false
def tgB (S : CK) (sc : Scope) (cl : Bool) (t : List Nat) (e : Expr) : Bool :=
  match t with
  | [i] => tg1B S sc cl i e
  | is => match e with
    | .Tuple es _ _ => tgsB S sc cl is es
    | _ => false
def ownL (S : CK) (t : List Nat) : List (Str × Nat) := t.map fun i => (S.N.getD i Str.empty, i)
def cmPlain : Cm → Bool
  | .isN => false
  | .isNN => false
  | _ => true

def isRange (sc : Scope) : Expr → Option (List Expr)
  | .Call (.Name x _) ys [] _ => if decide (x = ("range" : Str)) && glB sc x && ys.all noStar then some ys else none
  | _ => none
mutual
/-- t: as a test -/
def chk (S : CK) (sc : Scope) (t : Bool) : IE → Expr → Bool
  | .var i, e => match e with
    | .Name x _ => nmB S sc i x
    | _ => false
  | .pk i, e => match e with
    | .Name x _ => nmB S sc i x
    | _ => false
  | .nop, _ => false
  | .non, e => match e with
    | .Constant .none _ _ => true
    | _ => false
  | .bl b, e => match e with
    | .Constant (.bool c) _ _ => b == c
    | _ => false
  | .int i, e => match e with
    | .Constant (.int j) _ _ => decide (i = j)
    | _ => false
  | .str x, e => match e with
    | .Constant (.str y) _ _ => decide (x = y)
    | _ => false
  | .gc k, e => match e with
    | .Name x _ => decide (S.gc[k]? = some x) && glB sc x && nodb x
    | _ => false
  | .op o a b, e => match e with
    | .BinOp x p y _ => decide (opOf o = p) && chk S sc false a x && chk S sc false b y
    | _ => false
  | .neg a, e => match e with
    | .UnaryOp .USub x _ => !t && chk S sc false a x
    | _ => false
  | .cmp o a b, e => match e with
    | .Compare x [p] [y] _ => decide (cmOf o = p) && chk S sc false a x && chk S sc false b y
    | _ => false
  | .chn o o' a b c, e => match e with
    | .Compare x [p, p'] [y, z] _ => decide (cmOf o = p) && decide (cmOf o' = p') && cmPlain o && cmPlain o' && chk S sc false a x && chk S sc false b y && chk S sc false c z
    | _ => false
  | .and a b, e => match e with
    | .BoolOp .And [x, y] _ => chk S sc t a x && chk S sc t b y
    | .BoolOp .And (x :: y :: z :: r) p => chk S sc t a x && chk S sc t b (.BoolOp .And (y :: z :: r) p)
    | _ => false
  | .or a b, e => match e with
    | .BoolOp .Or [x, y] _ => chk S sc t a x && chk S sc t b y
    | .BoolOp .Or (x :: y :: z :: r) p => chk S sc t a x && chk S sc t b (.BoolOp .Or (y :: z :: r) p)
    | _ => false
  | .not a, e => match e with
    | .UnaryOp .Not x _ => chk S sc t a x
    | _ => false
  | .ite u a b, e => match e with
    | .IfExp w x y _ => !t && chk S sc true u w && chk S sc false a x && chk S sc false b y
    | _ => false
  | .tup es, e => match e with
    | .Tuple xs _ _ => chkL S sc es xs
    | _ => false
  | .lst es, e => match e with
    | .List xs _ => chkL S sc es xs
    | _ => false
  | .star _, _ => false
  | .ix a b, e => match e with
    | .Subscript x y _ => plainIxB y && chk S sc false a x && chk S sc false b y
    | _ => false
  | .call f es, e => match e with
    | .Call (.Name x _) (y :: ys) [] _ => decide (S.kd[f]? = some .plain) && decide (S.fn[f]? = some x) && glB sc x && nodb x && (y :: ys).all noStar && chkA S sc es (y :: ys)
    | _ => false
  | .calls f es, e => match e with
    | .Call (.Name x _) (y :: ys) [] _ => decide (S.kd[f]? = some .star) && decide (S.fn[f]? = some x) && glB sc x && nodb x && (y :: ys).all noStar && chkL S sc es (y :: ys)
    | _ => false
  | .mcall f i es, e => match e with
    | .Call (.Name x _) (.Name z _ :: ys) [] _ => decide (S.kd[f]? = some .mutd) && decide (S.fn[f]? = some x) && glB sc x && nodb x && nmB S sc i z && ys.all noStar && chkL S sc es ys
    | _ => false
  | .fcall f es, e => match e with
    | .Call (.Name x _) (y :: ys) [] _ => decide (S.kd[f]? = some .frsh) && decide (S.fn[f]? = some x) && glB sc x && nodb x && (y :: ys).all noStar && chkL S sc es (y :: ys)
    | _ => false
  | .tcall f a es, e => match e with
    | .Call (.Name x _) (y :: ys) [] _ => decide (S.kd[f]? = some .mutd) && decide (S.fn[f]? = some x) && glB sc x && nodb x && (y :: ys).all noStar && freshB a && chk S sc false a y && chkL S sc es ys
    | _ => false
  | .bi b es, e => match e with
    | .Call (.Name x _) (y :: ys) [] _ => decide (biNm b = x) && glB sc x && nodb x && (y :: ys).all noStar && chkA S sc es (y :: ys)
    | _ => false
  | .isi k a, e => match e with
    | .Call (.Name x _) [y, .Name z _] [] _ => decide (x = ("isinstance" : Str)) && glB sc x && noStar y && decide (tyNmS k = z) && glB sc z && chk S sc false a y
    | _ => false
  | .lc elt tt k ss c, e => match e with
    | .ListComp x [⟨tg, it, ifs, 0⟩] scope _ => blkC S.N sc scope (ownL S tt) && tgB S (relS scope sc) false tt tg && noSet it &&
      (match k with
        | .seq => (match ss with
          | [a] => chk S sc false a it
          | _ => false)
        | .rng1 => (match isRange sc it with
          | some ys => ys.length == 1 && chkL S sc ss ys
          | none => false)
        | .rng2 => (match isRange sc it with
          | some ys => ys.length == 2 && chkL S sc ss ys
          | none => false)) &&
      (match c, ifs with
        | .nop, [] => true
        | c, [y] => chk S (relS scope sc) true c y
        | _, _ => false) && chk S (relS scope sc) false elt x
    | _ => false
/-- the items of a display, stars among them -/
def chkL (S : CK) (sc : Scope) : List IE → List Expr → Bool
  | [], xs => xs.isEmpty
  | e :: es, xs => match xs with
    | [] => false
    | x :: r => (match e with
        | .star a => match x with
          | .Starred y _ => chk S sc false a y
          | _ => false
        | e => noStar x && chk S sc false e x) && chkL S sc es r
/-- arguments, no star among them -/
def chkA (S : CK) (sc : Scope) : List IE → List Expr → Bool
  | [], xs => xs.isEmpty
  | e :: es, xs => match xs with
    | [] => false
    | x :: r => noStar x && chk S sc false e x && chkA S sc es r
end
end TT

set_option maxHeartbeats 4000000
namespace TT
open PySem L2 PySem.Spec PyProof.Rows

/-- an exception: its class, what it keeps -/
def XRl (P : Pg) (H : Hp) (A : Addr → Prop) (x : Xn) (cls : Value) (dd : Option Addr) : Prop :=
  match x with
  | .mk c pl => cls = .ref (P.ca c) ∧ match pl with
    | none => dd = none
    | some d => ∃ dx v, dd = some dx ∧ H dx = some (.xd [(P.fld c, v)]) ∧ Rp P H A v d
def Cont {α β : Type} (F : Frm) (σ : L2.St) (R : Hp → Env → β → α → Prop) (W : WX) (H : Hp) (env : Env) (Q : β → Hp → Prop) : Out α → Prop
  | .ok a e => ∀ b H', EnvOk F σ H' e → Adv σ env H σ e H' → R H' e b a → Q b H'
  | .exc x e => ∀ cls dd H', EnvOk F σ H' e → Adv σ env H σ e H' → XRl F.P H' (Av F σ e) x cls dd → W cls dd σ H'
  | .bad => False
section
variable {α β γ δ : Type} {F : Frm} {σ : L2.St} {R : Hp → Env → β → α → Prop} {R' : Hp → Env → δ → γ → Prop} {W : WX} {H H1 : Hp} {env e1 : Env} {Q Q' : β → Hp → Prop}
theorem Cont.mono {m : Out α} (h : Cont F σ R W H env Q m) (k : ∀ b H', Q b H' → Q' b H') : Cont F σ R W H env Q' m := by
  cases m with
  | ok a e => exact fun b H' E A r => k b H' (h b H' E A r)
  | exc x e => exact h
  | bad => exact h
theorem Cont.shift {m : Out α} (h : Cont F σ R W H env Q m) (A : Adv σ env H σ e1 H1) : Cont F σ R W H1 e1 Q m := by
  cases m with
  | ok a e => exact fun b H' E A' r => h b H' E (A.trans A') r
  | exc x e => exact fun cls dd H' E A' r => h cls dd H' E (A.trans A') r
  | bad => exact h
theorem Cont.bind {m : Out α} {k : α → Env → Out γ} {Q2 : δ → Hp → Prop} (h : Cont F σ R' W H env Q2 (m.bind k)) :
    Cont F σ R W H env (fun b H1 => ∃ a e1, EnvOk F σ H1 e1 ∧ Adv σ env H σ e1 H1 ∧ R H1 e1 b a ∧ Cont F σ R' W H1 e1 Q2 (k a e1)) m := by
  cases m with
  | ok a e => exact fun b H' E A r => ⟨a, e, E, A, r, Cont.shift h A⟩
  | exc x e => exact h
  | bad => exact h
end
/-- how operands, values, lists, lists of operands stand -/
abbrev RPd (F : Frm) (σ : L2.St) : Hp → Env → V → Pd → Prop := fun H e v p => PdOk F σ H e v p
abbrev RLs (F : Frm) (σ : L2.St) : Hp → Env → List V → List D → Prop := fun H e vs ds => Rps F.P H (Av F σ e) vs ds
def PdsOk (F : Frm) (σ : L2.St) (H : Hp) (e : Env) : List V → List Pd → Prop
  | vs, [] => vs = []
  | vs, p :: ps => ∃ v r, vs = v :: r ∧ PdOk F σ H e v p ∧ PdsOk F σ H e r ps
abbrev RPs (F : Frm) (σ : L2.St) : Hp → Env → List V → List Pd → Prop := fun H e vs ps => PdsOk F σ H e vs ps
theorem PdsOk.stay {F : Frm} {σ : L2.St} {H H' : Hp} {env env' : Env} (E : EnvOk F σ H env) (A : Adv σ env H σ env' H') : ∀ {ps : List Pd} {vs : List V}, PdsOk F σ H env vs ps → PdsOk F σ H' env' vs ps
  | [], _, h => h
  | p :: ps, vs, ⟨v, r, e, h, k⟩ => ⟨v, r, e, E.pdStay A h, PdsOk.stay E A k⟩
theorem Cont.val {γ δ : Type} {F : Frm} {σ : L2.St} {R' : Hp → Env → δ → γ → Prop} {W : WX} {H : Hp} {env : Env} {m : Out Pd} {k : D → Env → Out γ} {Q2 : δ → Hp → Prop} (h : Cont F σ R' W H env Q2 (m.val k)) :
    Cont F σ (RPd F σ) W H env (fun v H1 => ∃ d e1, EnvOk F σ H1 e1 ∧ Adv σ env H σ e1 H1 ∧ Rp F.P H1 (Av F σ e1) v d ∧ Cont F σ R' W H1 e1 Q2 (k d e1)) m :=
  Cont.mono (Cont.bind h) fun v H1 ⟨p, e1, E, A, r, c⟩ => by
    cases p with
    | val d => exact ⟨d, e1, E, A, r, c⟩
    | pk i => exact (show False from c).elim

/-- the readings -/
def tI (C : Orc) (G : List D) (P : Pg) (W : WX) (ir : IE) : TE := fun σ H Q => ∃ F env, F.P = P ∧ EnvOk F σ H env ∧ Cont F σ (RPd F σ) W H env Q (ev C G ir env)
def evT (C : Orc) (G : List D) (ir : IE) (env : Env) : Out Bool := (ev C G ir env).bind tst
theorem Out.assoc {α β γ : Type} (m : Out α) (k : α → Env → Out β) (l : β → Env → Out γ) : (m.bind k).bind l = m.bind fun a e => (k a e).bind l := by
  cases m <;> rfl
theorem Out.assocV {β γ : Type} (m : Out Pd) (k : D → Env → Out β) (l : β → Env → Out γ) : (m.val k).bind l = m.val fun a e => (k a e).bind l := by
  cases m with
  | ok p e => cases p <;> rfl
  | exc x e => rfl
  | bad => rfl
abbrev REq {α : Type} : Hp → Env → α → α → Prop := fun _ _ b a => b = a
def tT (C : Orc) (G : List D) (P : Pg) (W : WX) (ir : IE) : TT := fun σ H Q => ∃ F env, F.P = P ∧ EnvOk F σ H env ∧ Cont F σ REq W H env Q (evT C G ir env)
def tL (C : Orc) (G : List D) (P : Pg) (W : WX) (es : List IE) : TA := fun σ H Q => ∃ F env, F.P = P ∧ EnvOk F σ H env ∧ Cont F σ (RLs F σ) W H env Q (evL C G es env)
def tA (C : Orc) (G : List D) (P : Pg) (W : WX) (es : List IE) : TA := fun σ H Q => ∃ F env, F.P = P ∧ EnvOk F σ H env ∧ Cont F σ (RPs F σ) W H env Q (evP C G es env)

section
variable {X : Cx} {e : Expr} {es : List Expr} {t t' : TE} {u u' : TT} {v v' : TA}
theorem pe_of (h : PE X e t) (k : ∀ σ H Q, t' σ H Q → t σ H Q) : PE X e t' := ⟨fun pins s σ H Q I w => h.run pins s σ H Q I (k σ H Q w)⟩
theorem pt_of (h : PT X e u) (k : ∀ σ H Q, u' σ H Q → u σ H Q) : PT X e u' := ⟨fun pins s σ H Q I w => h.run pins s σ H Q I (k σ H Q w)⟩
theorem pa_of (h : PA X es v) (k : ∀ σ H Q, v' σ H Q → v σ H Q) : PA X es v' := ⟨fun pos pins s σ H Q I w => h.run pos pins s σ H Q I (k σ H Q w)⟩
end

/-- what a promise asks of the arguments, and gives -/
def spO (P : Pg) (C : Orc) (f : Nat) : Sp := fun vs H Q E => ∃ ds Z, Rps P H Z vs ds ∧ (∀ a, Z a → H a ≠ none) ∧ match C f ds with
  | .ok d _ => ∀ v H', (∀ a o, H a = some o → H' a = some o) → Rp P H' Z v d → Q v H'
  | .exc x => ∀ cls dd H', (∀ a o, H a = some o → H' a = some o) → XRl P H' Z x cls dd → E cls dd H'
  | .bad => False
def spM (P : Pg) (C : Orc) (f : Nat) : Sp := fun vs H Q _ => ∃ a ws es us ds Z, vs = .ref a :: us ∧ H a = some (.lst ws) ∧ Rps P H Z ws es ∧ Rps P H Z us ds ∧ Z a ∧ (∀ a, Z a → H a ≠ none) ∧ match C f (.lst es :: ds) with
  | .ok d (.lst es') => ∀ v H' ws', (∀ b o, b ≠ a → H b = some o → H' b = some o) → H' a = some (.lst ws') → Rps P H' Z ws' es' → Rp P H' Z v d → Q v H'
  | _ => False
def spS (P : Pg) (C : Orc) (f : Nat) : Sp := fun vs H Q E => vs.length ≤ sizeLine ∧ ∀ p, H p = none → spO P C f [.ref p] (upd H p (.tup vs)) Q E
/-- .. a new list -/
def spF (P : Pg) (C : Orc) (f : Nat) : Sp := fun vs H Q E => ∃ ds Z, Rps P H Z vs ds ∧ (∀ a, Z a → H a ≠ none) ∧ match C f ds with
  | .ok (.lst es) _ => ∀ a ws H', (∀ a o, H a = some o → H' a = some o) → H a = none → H' a = some (.lst ws) → Rps P H' (fun b => Z b ∨ b = a) ws es → Q (.ref a) H'
  | .exc x => ∀ cls dd H', (∀ a o, H a = some o → H' a = some o) → XRl P H' Z x cls dd → E cls dd H'
  | _ => False
/-- a call of the def at f, what is raised wished for at the caller's slots -/
theorem pe_callF {X : Cx} {k : Nat} {f : Addr} {sp : Sp} {W : WX} {x : Str} {p pos : Pos} {e : Expr} {es : List Expr} {t : TA} (F : FnR X.prog X.w X.K X.mg X.base (L2.CX X.prog X.w) k f sp) (hr : Room k X.A) (hg : Gl X x) (hm : X.mg x = some (.ref f))
    (hk : PySem.W.keepIn X.K (.ref f) = true) (tk : Takes X W) (ha : PA X (e :: es) t) (hdb : (x == ("__debug__" : Str)) = false)
    (he : starEach (e :: es) X.env = (false, eval e X.env) :: starEach es X.env) (hpl : (backTo pos (starEach es X.env)).any (·.1) = false) :
    PE X (.Call (.Name x p) (e :: es) [] pos) (fun σ H Q => t σ H fun vs H1 => sp vs H1 Q (WE W σ)) := by
  refine ⟨fun pins s σ H Q I h => ?_⟩
  refine wpAny_Call_Name_kw (ld_glob I hg hm ?_ hdb)
  refine PySem.W.callWith_K (h₀ := X.base) I.ok.mod.kin hk (thn (ha.run pos pins s σ H _ I h) fun us s1 ⟨vs, H1, I1, r, q⟩ => ⟨I1.kIn, ?_⟩) he hpl
  refine wpAny_call (codeAny_mono (F X.A X.stack s1 H1 us vs Q (WE W σ) hr I1.env0 r q) fun r s' hq => ?_)
  cases r with
  | error e => exact passAt tk σ pins H1 s1 e s' I1 hq
  | ok fl =>
    cases fl with
    | ret u => exact I1.after hq
    | next => exact False.elim hq
    | brk => exact False.elim hq
    | cont => exact False.elim hq

/-- what is known of a place in the program -/
structure Good (S : CK) (P : Pg) (n : Nat) (C : Orc) (G : List D) (X : Cx) : Prop where
  hN : X.N = S.N
  nd : S.N.Nodup
  calm : X.calm = true
  hr : Room n X.A
  hK : X.K = P.K
  fns : ∀ (f : Nat) (x : Str) (k : DK), S.fn[f]? = some x → S.kd[f]? = some k → X.mg x = some (.ref (P.fa f)) ∧ PySem.W.keepIn X.K (.ref (P.fa f)) = true ∧
    FnR X.prog X.w X.K X.mg X.base (L2.CX X.prog X.w) n (P.fa f) (match k with | .plain => spO P C f | .mutd => spM P C f | .star => spS P C f | .frsh => spF P C f)
  gcs : ∀ (k : Nat) (x : Str) (d : D), S.gc[k]? = some x → G[k]? = some d → ∃ v u, X.mg x = some u ∧ RelV v u ∧ flat d = true ∧ ∀ H A, Rp P H A v d
  blt : ∀ x : Str, x ∈ (["len", "int", "tuple", "list", "abs", "max", "min", "all", "any", "isinstance", "bool", "str", "range"] : List Str) → X.mg x = none
  gcd : X.mg ("gcd" : Str) = some (.builtin "math.gcd")
end TT

set_option maxHeartbeats 4000000
namespace TT
open PySem L2 PySem.Spec PyProof.Rows

/-- a result by value: flat, or a new list, or a new tuple -/
def ResOk (P : Pg) (H : Hp) (A : Addr → Prop) (Q : VK) : D → Prop
  | .lst ds => ∀ p vs, H p = none → Rps P H A vs ds → Q (.ref p) (upd H p (.lst vs))
  | .tup ds => (∀ p vs, H p = none → Rps P H A vs ds → Q (.ref p) (upd H p (.tup vs))) ∧ ∀ v, Rp P H A v (.tup ds) → Q v H
  | d => ∀ v, Rp P H A v d → Q v H
/-- two operands, a result -/
def rD2 (P : Pg) (f : D → D → Option D) : R2 := fun x y H Q => ∃ A dx dy d, RpP P H A x dx ∧ RpP P H A y dy ∧ f dx dy = some d ∧ ResOk P H A Q d
section
variable {X : Cx} {P : Pg}
theorem sl_le {n : Nat} (h : n ≤ SL) : n ≤ sizeLine := by rw [sizeLine_eq]; exact h
theorem op_fdivX : OpR X (binaryOp .FloorDiv) (rI (fun _ j => j ≠ 0 ∧ j.natAbs.log2 < 9000) fun i j => .int (i.fdiv j)) :=
  opI fun _ _ _ _ _ _ _ hc q => floordiv_int hc.1 q (.inl (PyProof.noPylong_of_log2 hc.2))
theorem op_ok (o : Op) : OpR X (binaryOp (opOf o)) (rD2 P (opD o)) := by
  intro pins s σ H x y v u Q I rx ry ⟨A, dx, dy, d, h1, h2, h3, h4⟩
  cases o with
  | add =>
    simp only [opD] at h3
    split at h3
    · cases h3
      obtain rfl := (show x = _ from h1)
      obtain rfl := (show y = _ from h2)
      exact op_add pins s σ H _ _ v u Q I rx ry ⟨_, _, rfl, rfl, h4 _ rfl⟩
    · split at h3
      · rename_i hz
        cases h3
        obtain rfl := (show x = _ from h1)
        obtain rfl := (show y = _ from h2)
        exact op_add_str pins s σ H _ _ v u Q I rx ry ⟨_, _, rfl, rfl, sl_le hz, h4 _ rfl⟩
      · cases h3
    · split at h3
      · rename_i hz
        cases h3
        obtain ⟨a, vs, rfl, e1, r1⟩ := h1
        obtain ⟨b, ws, rfl, e2, r2⟩ := h2
        exact op_cat pins s σ H _ _ v u Q I rx ry ⟨a, b, vs, ws, rfl, rfl, e1, e2, sl_le (by rw [r1.length, r2.length]; exact hz), fun p hp => h4 p _ hp (r1.app r2)⟩
      · cases h3
    · cases h3
  | sub =>
    simp only [opD] at h3
    split at h3
    · cases h3
      obtain rfl := (show x = _ from h1)
      obtain rfl := (show y = _ from h2)
      exact op_sub pins s σ H _ _ v u Q I rx ry ⟨_, _, rfl, rfl, h4 _ rfl⟩
    · cases h3
  | mul =>
    simp only [opD] at h3
    split at h3
    · split at h3
      · rename_i hz
        cases h3
        obtain rfl := (show x = _ from h1)
        obtain rfl := (show y = _ from h2)
        exact op_mulW pins s σ H _ _ v u Q I rx ry ⟨_, _, rfl, rfl, (show CMulW _ _ from of_decide_eq_true (p := _ + _ < 1000000) hz), h4 _ rfl⟩
      · cases h3
    · split at h3
      · rename_i hz
        cases h3
        simp only [Bool.and_eq_true, decide_eq_true_eq] at hz
        obtain ⟨⟨z1, z2⟩, z3⟩ := hz
        obtain ⟨a, vs, rfl, e1, r1⟩ := h1
        obtain rfl := (show y = _ from h2)
        exact op_rep pins s σ H _ _ v u Q I rx ry ⟨a, _, vs, rfl, rfl, e1, by omega, by omega, sl_le (by rw [r1.length]; exact z3), fun p hp => h4 p _ hp (r1.rep _)⟩
      · cases h3
    · cases h3
  | fdiv =>
    simp only [opD] at h3
    split at h3
    · split at h3
      · rename_i hz
        cases h3
        simp only [divOk, Bool.and_eq_true, decide_eq_true_eq] at hz
        obtain rfl := (show x = _ from h1)
        obtain rfl := (show y = _ from h2)
        exact op_fdivX pins s σ H _ _ v u Q I rx ry ⟨_, _, rfl, rfl, hz, h4 _ rfl⟩
      · cases h3
    · cases h3
  | mod =>
    simp only [opD] at h3
    split at h3
    · split at h3
      · rename_i hz
        cases h3
        obtain rfl := (show x = _ from h1)
        obtain rfl := (show y = _ from h2)
        exact op_modN pins s σ H _ _ v u Q I rx ry ⟨_, _, rfl, rfl, of_decide_eq_true hz, h4 _ rfl⟩
      · cases h3
    · cases h3
  | pow =>
    simp only [opD] at h3
    split at h3
    · split at h3
      · rename_i hz
        cases h3
        simp only [Bool.and_eq_true, decide_eq_true_eq] at hz
        obtain ⟨⟨z1, z2⟩, z3⟩ := hz
        obtain rfl := (show x = _ from h1)
        obtain rfl := (show y = _ from h2)
        exact op_pow pins s σ H _ _ v u Q I rx ry ⟨_, _, rfl, rfl, ⟨z1, z2, by omega⟩, h4 _ rfl⟩
      · cases h3
    · cases h3

/-! ### data, compared -/
mutual
def toPy : D → PyData
  | .non => .none
  | .bl b => .bool b
  | .int i => .int i
  | .str x => .str x
  | .tup xs => .tuple (toPys xs)
  | .lst xs => .list (toPys xs)
  | .fn _ => .none
  | .ty _ => .none
  | .scr _ => .none
def toPys : List D → List PyData
  | [] => []
  | x :: xs => toPy x :: toPys xs
end
mutual
theorem rp_dp {H : Hp} {A : Addr → Prop} {n : Nat} : ∀ {d : D} {v : V}, dok n d = true → Rp P H A v d → Dp P.K H v (toPy d)
  | .non, v, _, h => by rw [show v = .non from h]; exact .non
  | .bl b, v, _, h => by rw [show v = .bl b from h]; exact .bl b
  | .int i, v, _, h => by rw [show v = .int i from h]; exact .int i
  | .str i, v, _, h => by rw [show v = .str i from h]; exact .str i
  | .tup ds, v, k, h => by
    obtain ⟨a, vs, rfl, q, r⟩ := h
    cases n with
    | zero => simp [dok] at k
    | succ m => exact .tup q (rps_dp (n := m) (by simpa [dok] using k) r)
  | .lst ds, v, k, h => by
    obtain ⟨a, vs, rfl, _, q, r⟩ := h
    cases n with
    | zero => simp [dok] at k
    | succ m => exact .lst (.inl (.inl q)) (rps_dp (n := m) (by simpa [dok] using k) r)
  | .fn _, v, k, _ => by simp [dok] at k
  | .ty _, v, k, _ => by simp [dok] at k
  | .scr _, v, k, _ => by simp [dok] at k
theorem rps_dp {H : Hp} {A : Addr → Prop} {n : Nat} : ∀ {ds : List D} {vs : List V}, doks n ds = true → Rps P H A vs ds → DpAll P.K H vs (toPys ds)
  | [], vs, _, h => by rw [show vs = [] from h]; exact .nil
  | d :: ds, vs, k, h => by
    obtain ⟨v, r, rfl, q, z⟩ := h
    simp only [doks, Bool.and_eq_true] at k
    exact .cons (rp_dp k.1 q) (rps_dp k.2 z)
end
theorem rpp_dp {H : Hp} {A : Addr → Prop} {n : Nat} {d : D} {v : V} (k : dok n d = true) (h : RpP P H A v d) : Dp P.K H v (toPy d) := by
  cases d with
  | lst ds =>
    obtain ⟨a, vs, rfl, q, r⟩ := h
    cases n with
    | zero => simp [dok] at k
    | succ m => exact .lst (.inl (.inl q)) (rps_dp (n := m) (by simpa [dok] using k) r)
  | _ => exact rp_dp (A := A) k h
mutual
theorem dok_lay {n : Nat} : ∀ {d : D}, dok n d = true → (toPy d).canLay0 = true ∧ (toPy d).depth ≤ n
  | .non, _ => ⟨rfl, Nat.zero_le _⟩
  | .bl _, _ => ⟨rfl, Nat.zero_le _⟩
  | .int _, _ => ⟨rfl, Nat.zero_le _⟩
  | .str x, k => ⟨by simpa [dok, toPy, PyData.canLay0] using k, Nat.zero_le _⟩
  | .tup ds, k => by
    cases n with
    | zero => simp [dok] at k
    | succ m =>
      obtain ⟨h1, h2⟩ := doks_lay (n := m) (ds := ds) (by simpa [dok] using k)
      exact ⟨by simpa [toPy, PyData.canLay0] using h1, by simp only [toPy, PyData.depth]; omega⟩
  | .lst ds, k => by
    cases n with
    | zero => simp [dok] at k
    | succ m =>
      obtain ⟨h1, h2⟩ := doks_lay (n := m) (ds := ds) (by simpa [dok] using k)
      exact ⟨by simpa [toPy, PyData.canLay0] using h1, by simp only [toPy, PyData.depth]; omega⟩
  | .fn _, k => by simp [dok] at k
  | .ty _, k => by simp [dok] at k
  | .scr _, k => by simp [dok] at k
theorem doks_lay {n : Nat} : ∀ {ds : List D}, doks n ds = true → PyData.canLayAll0 (toPys ds) = true ∧ PyData.depthAll (toPys ds) ≤ n
  | [], _ => ⟨rfl, Nat.zero_le _⟩
  | d :: ds, k => by
    simp only [doks, Bool.and_eq_true] at k
    obtain ⟨h1, h2⟩ := dok_lay k.1
    obtain ⟨h3, h4⟩ := doks_lay k.2
    exact ⟨by simp only [toPys, PyData.canLayAll0, h1, h3, Bool.and_self], by simp only [toPys, PyData.depthAll]; omega⟩
end
mutual
theorem eqv_eq : ∀ (a b : D), (∃ n, dok n a = true) → (∃ n, dok n b = true) → PyData.eqv (toPy a) (toPy b) = eqD a b
  | .non, b, _, kb => by cases b <;> first | rfl | (obtain ⟨n, k⟩ := kb; simp [dok] at k)
  | .bl x, b, _, kb => by cases b <;> first | rfl | (obtain ⟨n, k⟩ := kb; simp [dok] at k)
  | .int x, b, _, kb => by cases b <;> first | rfl | (obtain ⟨n, k⟩ := kb; simp [dok] at k)
  | .str x, b, _, kb => by cases b <;> first | rfl | (obtain ⟨n, k⟩ := kb; simp [dok] at k)
  | .tup xs, b, ka, kb => by
    cases b with
    | tup ys =>
      obtain ⟨n, k⟩ := ka
      obtain ⟨m, k'⟩ := kb
      cases n with
      | zero => simp [dok] at k
      | succ n =>
        cases m with
        | zero => simp [dok] at k'
        | succ m => exact (show PyData.eqvAll (toPys xs) (toPys ys) = eqDs xs ys from eqvs_eq xs ys ⟨n, by simpa [dok] using k⟩ ⟨m, by simpa [dok] using k'⟩)
    | fn _ => obtain ⟨n, k⟩ := kb; simp [dok] at k
    | ty _ => obtain ⟨n, k⟩ := kb; simp [dok] at k
    | scr _ => obtain ⟨n, k⟩ := kb; simp [dok] at k
    | _ => rfl
  | .lst xs, b, ka, kb => by
    cases b with
    | lst ys =>
      obtain ⟨n, k⟩ := ka
      obtain ⟨m, k'⟩ := kb
      cases n with
      | zero => simp [dok] at k
      | succ n =>
        cases m with
        | zero => simp [dok] at k'
        | succ m => exact (show PyData.eqvAll (toPys xs) (toPys ys) = eqDs xs ys from eqvs_eq xs ys ⟨n, by simpa [dok] using k⟩ ⟨m, by simpa [dok] using k'⟩)
    | fn _ => obtain ⟨n, k⟩ := kb; simp [dok] at k
    | ty _ => obtain ⟨n, k⟩ := kb; simp [dok] at k
    | scr _ => obtain ⟨n, k⟩ := kb; simp [dok] at k
    | _ => rfl
  | .fn _, b, ka, _ => by obtain ⟨n, k⟩ := ka; simp [dok] at k
  | .ty _, b, ka, _ => by obtain ⟨n, k⟩ := ka; simp [dok] at k
  | .scr _, b, ka, _ => by obtain ⟨n, k⟩ := ka; simp [dok] at k
theorem eqvs_eq : ∀ (a b : List D), (∃ n, doks n a = true) → (∃ n, doks n b = true) → PyData.eqvAll (toPys a) (toPys b) = eqDs a b
  | [], [], _, _ => rfl
  | [], _ :: _, _, _ => rfl
  | _ :: _, [], _, _ => rfl
  | x :: xs, y :: ys, ⟨n, ka⟩, ⟨m, kb⟩ => by
    simp only [doks, Bool.and_eq_true] at ka kb
    simp only [toPys, PyData.eqvAll, eqDs]
    rw [eqv_eq x y ⟨n, ka.1⟩ ⟨m, kb.1⟩, eqvs_eq xs ys ⟨n, ka.2⟩ ⟨m, kb.2⟩]
end
theorem shaped_of {d : D} (k : dok 60 d = true) : SeqAt.shaped (toPy d) = true := by
  obtain ⟨h1, h2⟩ := dok_lay k
  unfold SeqAt.shaped
  rw [h1, Bool.true_and]
  exact decide_eq_true (by omega)
theorem isNon_iff {H : Hp} {A : Addr → Prop} {d : D} {v : V} (h : RpP P H A v d) : decide (v = .non) = isNon d := by
  cases d with
  | non => rw [show v = .non from h]; rfl
  | bl b => rw [show v = .bl b from h]; rfl
  | int b => rw [show v = .int b from h]; rfl
  | str b => rw [show v = .str b from h]; rfl
  | tup ds => obtain ⟨a, vs, rfl, _⟩ := h; rfl
  | lst ds => obtain ⟨a, vs, rfl, _⟩ := h; rfl
  | fn k => rw [show v = .ref (P.fa k) from h]; rfl
  | ty k => rw [show v = .ty (tyNm k) from h]; rfl
  | scr ds => obtain ⟨a, rfl, _⟩ := h; rfl
theorem of_isNon {H : Hp} {A : Addr → Prop} {d : D} {v : V} (h : RpP P H A v d) (k : isNon d = true) : v = .non := by
  have q := isNon_iff h
  rw [k] at q
  exact of_decide_eq_true q
/-- comparisons by value -/
def rC2 (P : Pg) (o : Cm) : R2 := fun x y H Q => ∃ A dx dy b, RpP P H A x dx ∧ RpP P H A y dy ∧ cmpD o dx dy = some b ∧ Q (.bl b) H
theorem cmp_ok (hK : X.K = P.K) (hu : X.A.units + 64 < cLine) (o : Cm) : OpR X (compareOp (cmOf o)) (rC2 P o) := by
  intro pins s σ H x y v u Q I rx ry ⟨A, dx, dy, b, h1, h2, h3, h4⟩
  cases o with
  | eq =>
    simp only [cmpD] at h3
    split at h3
    · rename_i hz
      simp only [Bool.and_eq_true] at hz
      cases h3
      refine op_eqD hu pins s σ H x y v u Q I rx ry ⟨toPy dx, toPy dy, by rw [hK]; exact rpp_dp hz.1 h1, by rw [hK]; exact rpp_dp hz.2 h2, shaped_of hz.1, shaped_of hz.2, ?_⟩
      rw [eqv_eq dx dy ⟨_, hz.1⟩ ⟨_, hz.2⟩]
      exact h4
    · cases h3
  | ne =>
    simp only [cmpD] at h3
    split at h3
    · rename_i hz
      simp only [Bool.and_eq_true] at hz
      cases h3
      refine op_neD hu pins s σ H x y v u Q I rx ry ⟨toPy dx, toPy dy, by rw [hK]; exact rpp_dp hz.1 h1, by rw [hK]; exact rpp_dp hz.2 h2, shaped_of hz.1, shaped_of hz.2, ?_⟩
      rw [eqv_eq dx dy ⟨_, hz.1⟩ ⟨_, hz.2⟩]
      exact h4
    · cases h3
  | lt =>
    simp only [cmpD] at h3
    split at h3
    · cases h3
      obtain rfl := (show x = _ from h1)
      obtain rfl := (show y = _ from h2)
      exact op_lt pins s σ H _ _ v u Q I rx ry ⟨_, _, rfl, rfl, h4⟩
    · cases h3
  | le =>
    simp only [cmpD] at h3
    split at h3
    · cases h3
      obtain rfl := (show x = _ from h1)
      obtain rfl := (show y = _ from h2)
      exact op_le pins s σ H _ _ v u Q I rx ry ⟨_, _, rfl, rfl, h4⟩
    · cases h3
  | gt =>
    simp only [cmpD] at h3
    split at h3
    · cases h3
      obtain rfl := (show x = _ from h1)
      obtain rfl := (show y = _ from h2)
      exact op_gt pins s σ H _ _ v u Q I rx ry ⟨_, _, rfl, rfl, h4⟩
    · cases h3
  | ge =>
    simp only [cmpD] at h3
    split at h3
    · cases h3
      obtain rfl := (show x = _ from h1)
      obtain rfl := (show y = _ from h2)
      exact op_ge pins s σ H _ _ v u Q I rx ry ⟨_, _, rfl, rfl, h4⟩
    · cases h3
  | isN =>
    simp only [cmpD] at h3
    split at h3
    · rename_i hz
      cases h3
      refine op_isN pins s σ H x y v u Q I rx ry ⟨of_isNon h2 hz, ?_⟩
      rw [isNon_iff h1]
      exact h4
    · cases h3
  | isNN =>
    simp only [cmpD] at h3
    split at h3
    · rename_i hz
      cases h3
      refine op_notN pins s σ H x y v u Q I rx ry ⟨of_isNon h2 hz, ?_⟩
      rw [isNon_iff h1]
      exact h4
    · cases h3
theorem truth_ok {H : Hp} {A : Addr → Prop} {d : D} {v : V} {k : Bool} (h : RpP P H A v d) (t : truth d = some k) : TruV P.K v H k := by
  cases d with
  | non => rw [show v = .non from h]; cases t; rfl
  | bl b => rw [show v = .bl b from h]; cases t; rfl
  | int i => rw [show v = .int i from h]; cases t; rfl
  | str x =>
    rw [show v = .str x from h]
    simp only [truth] at t
    split at t
    · rename_i hz
      cases t
      exact ⟨sl_le hz, rfl⟩
    · cases t
  | tup ds =>
    obtain ⟨a, vs, rfl, q, r⟩ := h
    cases t
    refine .inr (.inl ⟨vs, q, ?_⟩)
    cases ds with
    | nil => rw [show vs = [] from r]; rfl
    | cons d ds => obtain ⟨w, z, rfl, _⟩ := r; rfl
  | lst ds =>
    obtain ⟨a, vs, rfl, q, r⟩ := h
    cases t
    refine .inl ⟨vs, .inl (.inl q), ?_⟩
    cases ds with
    | nil => rw [show vs = [] from r]; rfl
    | cons d ds => obtain ⟨w, z, rfl, _⟩ := r; rfl
  | fn k => cases t
  | ty k => cases t
  | scr ns => cases t

/-! ### subscripts -/
theorem ixNat_eq {α : Type} {xs : List α} {i : Int} : atI xs i = (ixNat xs.length i).bind fun j => xs[j]? := rfl
def rX2 (P : Pg) : R2 := fun x y H Q => ∃ A dx dy d, RpP P H A x dx ∧ RpP P H A y dy ∧ ixD dx dy = some d ∧ ∀ v, Rp P H A v d → Q v H
theorem scr_sql {H : Hp} {A : Addr → Prop} {v : V} {ns : List Int} (h : Rp P H A v (.scr ns)) : ∃ a, v = .ref a ∧ SqL P.K H a (ns.map V.int) := by
  obtain ⟨a, rfl, h⟩ := h
  rcases h with ⟨_, h⟩ | h
  · exact ⟨a, rfl, .inl h⟩
  · exact ⟨a, rfl, h H⟩
theorem ix_get {H : Hp} {A : Addr → Prop} {vs : List V} {ds : List D} {i : Int} {d : D} (r : Rps P H A vs ds) (h : (ixNat ds.length i).bind (fun k => ds[k]?) = some d) : ∃ v, atI vs i = some v ∧ Rp P H A v d := by
  cases e : ixNat ds.length i with
  | none => rw [e] at h; cases h
  | some k =>
    rw [e] at h
    obtain ⟨v, h1, h2⟩ := r.get h
    refine ⟨v, ?_, h2⟩
    rw [ixNat_eq, r.length, e]
    exact h1
theorem ix_ok (hK : X.K = P.K) : IxR X (rX2 P) := by
  intro value slice pins s σ H x y v u Q I rx ry ⟨A, dx, dy, d, h1, h2, h3, h4⟩ hs
  simp only [ixD] at h3
  split at h3
  · obtain ⟨a, vs, rfl, e1, r1⟩ := h1
    obtain rfl := (show y = _ from h2)
    obtain ⟨w, q1, q2⟩ := ix_get r1 h3
    exact ix_list value slice pins s σ H _ _ v u Q I rx ry ⟨a, vs, _, w, rfl, rfl, .inl (.inl e1), q1, h4 w q2⟩ hs
  · obtain ⟨a, vs, rfl, e1, r1⟩ := h1
    obtain rfl := (show y = _ from h2)
    obtain ⟨w, q1, q2⟩ := ix_get r1 h3
    exact ix_tup value slice pins s σ H _ _ v u Q I rx ry ⟨a, vs, _, w, rfl, rfl, by rw [hK]; exact e1, q1, h4 w q2⟩ hs
  · rename_i xs i
    obtain ⟨a, rfl, e1⟩ := scr_sql (show Rp P H A x (.scr xs) from h1)
    obtain rfl := (show y = _ from h2)
    cases e : ixNat xs.length i with
    | none => rw [e] at h3; cases h3
    | some k =>
      rw [e] at h3
      have h3 : (xs[k]?).map D.int = some d := h3
      cases e2 : xs[k]? with
      | none => rw [e2] at h3; cases h3
      | some z =>
        rw [e2] at h3
        cases h3
        refine ix_list value slice pins s σ H _ _ v u Q I rx ry ⟨a, _, _, .int z, rfl, rfl, by rw [hK]; exact e1, ?_, h4 _ rfl⟩ hs
        rw [ixNat_eq, List.length_map, e]
        show (xs.map V.int)[k]? = _
        rw [List.getElem?_map, e2]
        rfl
  · cases h3

/-! ### built-ins -/
def RpPs (P : Pg) (H : Hp) (A : Addr → Prop) : List V → List D → Prop
  | vs, [] => vs = []
  | vs, d :: ds => ∃ v r, vs = v :: r ∧ RpP P H A v d ∧ RpPs P H A r ds
def rB (P : Pg) (b : Bi) : List V → Hp → VK → Prop := fun xs H Q => ∃ A ds d, RpPs P H A xs ds ∧ biD b ds = some d ∧ ResOk P H A Q d
theorem bools_map : ∀ {ys : List D} {bs : List Bool}, bools ys = some bs → ys = bs.map D.bl
  | [], bs, h => by cases h; rfl
  | .bl b :: r, bs, h => by
    simp only [bools] at h
    cases e : bools r with
    | none => rw [e] at h; cases h
    | some cs =>
      rw [e] at h
      cases h
      rw [bools_map e]
      rfl
  | .non :: _, bs, h => by cases h
  | .int _ :: _, bs, h => by cases h
  | .str _ :: _, bs, h => by cases h
  | .tup _ :: _, bs, h => by cases h
  | .lst _ :: _, bs, h => by cases h
  | .fn _ :: _, bs, h => by cases h
  | .ty _ :: _, bs, h => by cases h
  | .scr _ :: _, bs, h => by cases h
theorem rps_bls {H : Hp} {A : Addr → Prop} : ∀ {bs : List Bool} {vs : List V}, Rps P H A vs (bs.map D.bl) → vs = bs.map V.bl
  | [], vs, h => h
  | b :: bs, vs, h => by
    obtain ⟨v, r, rfl, q, z⟩ := h
    rw [show v = .bl b from q, rps_bls z]
    rfl
theorem bi_len (hK : X.K = P.K) : CallR X (.builtin "len") (rB P .len) := by
  intro pins s σ H xs us Q I r ⟨A, ds, d, h1, h2, h3⟩
  simp only [biD] at h2
  split at h2
  · cases h2
    obtain ⟨v, _, rfl, ⟨a, vs, rfl, e1, r1⟩, rfl⟩ := h1
    exact call_len_seq pins s σ H _ us Q I r ⟨a, vs, rfl, .inl (.inl (.inl e1)), by rw [r1.length]; exact h3 _ rfl⟩
  · cases h2
    obtain ⟨v, _, rfl, ⟨a, vs, rfl, e1, r1⟩, rfl⟩ := h1
    exact call_len_seq pins s σ H _ us Q I r ⟨a, vs, rfl, .inr (by rw [hK]; exact e1), by rw [r1.length]; exact h3 _ rfl⟩
  · rename_i ys
    cases h2
    obtain ⟨v, _, rfl, h1, rfl⟩ := h1
    obtain ⟨a, rfl, e1⟩ := scr_sql (show Rp P H A v (.scr ys) from h1)
    exact call_len_seq pins s σ H _ us Q I r ⟨a, _, rfl, .inl (by rw [hK]; exact e1), by rw [List.length_map]; exact h3 _ rfl⟩
  · split at h2
    · rename_i hz
      cases h2
      obtain ⟨v, _, rfl, h1, rfl⟩ := h1
      obtain rfl := (show v = _ from h1)
      exact call_len_str pins s σ H _ us Q I r ⟨_, rfl, sl_le hz, h3 _ rfl⟩
    · cases h2
  · cases h2
theorem bi_int : CallR X (.type "int") (rB P .int) := by
  intro pins s σ H xs us Q I r ⟨A, ds, d, h1, h2, h3⟩
  simp only [biD] at h2
  split at h2
  · cases h2
    obtain ⟨v, _, rfl, h1, rfl⟩ := h1
    obtain rfl := (show v = _ from h1)
    exact call_int1 pins s σ H _ us Q I r (.inl ⟨_, rfl, h3 _ rfl⟩)
  · cases h2
    obtain ⟨v, _, rfl, h1, rfl⟩ := h1
    obtain rfl := (show v = _ from h1)
    exact call_int1 pins s σ H _ us Q I r (.inr ⟨_, rfl, h3 _ rfl⟩)
  · cases h2
theorem bi_tuple (hK : X.K = P.K) : CallR X (.type "tuple") (rB P .tuple) := by
  intro pins s σ H xs us Q I r ⟨A, ds, d, h1, h2, h3⟩
  simp only [biD] at h2
  split at h2
  · cases h2
    obtain ⟨v, _, rfl, ⟨a, vs, rfl, e1, r1⟩, rfl⟩ := h1
    exact call_tuple_of pins s σ H _ us Q I r ⟨a, vs, rfl, .inl ⟨.inl (.inl e1), fun l hl => h3.1 l vs hl r1⟩⟩
  · cases h2
    obtain ⟨v, _, rfl, ⟨a, vs, rfl, e1, r1⟩, rfl⟩ := h1
    exact call_tuple_of pins s σ H _ us Q I r ⟨a, vs, rfl, .inr ⟨by rw [hK]; exact e1, h3.2 _ ⟨a, vs, rfl, e1, r1⟩⟩⟩
  · cases h2
theorem bi_list (hK : X.K = P.K) : CallR X (.type "list") (rB P .list) := by
  intro pins s σ H xs us Q I r ⟨A, ds, d, h1, h2, h3⟩
  simp only [biD] at h2
  split at h2
  · cases h2
    obtain ⟨v, _, rfl, ⟨a, vs, rfl, e1, r1⟩, rfl⟩ := h1
    exact call_list_of pins s σ H _ us Q I r ⟨a, vs, rfl, .inl (.inl (.inl e1)), fun l hl => h3 l vs hl r1⟩
  · cases h2
    obtain ⟨v, _, rfl, ⟨a, vs, rfl, e1, r1⟩, rfl⟩ := h1
    exact call_list_of pins s σ H _ us Q I r ⟨a, vs, rfl, .inr (by rw [hK]; exact e1), fun l hl => h3 l vs hl r1⟩
  · cases h2
theorem bi_abs : CallR X (.builtin "abs") (rB P .abs) := by
  intro pins s σ H xs us Q I r ⟨A, ds, d, h1, h2, h3⟩
  simp only [biD] at h2
  split at h2
  · cases h2
    obtain ⟨v, _, rfl, h1, rfl⟩ := h1
    obtain rfl := (show v = _ from h1)
    exact call_abs pins s σ H _ us Q I r ⟨_, rfl, h3 _ rfl⟩
  · cases h2
theorem bi_max2 (hc : X.calm = true) : CallR X (.builtin "max") (rB P .max2) := by
  intro pins s σ H xs us Q I r ⟨A, ds, d, h1, h2, h3⟩
  simp only [biD] at h2
  split at h2
  · cases h2
    obtain ⟨v, _, rfl, h1, w, _, rfl, h2, rfl⟩ := h1
    obtain rfl := (show v = _ from h1)
    obtain rfl := (show w = _ from h2)
    exact call_max2 hc pins s σ H _ us Q I r ⟨_, _, rfl, h3 _ rfl⟩
  · cases h2
theorem bi_min2 (hc : X.calm = true) : CallR X (.builtin "min") (rB P .min2) := by
  intro pins s σ H xs us Q I r ⟨A, ds, d, h1, h2, h3⟩
  simp only [biD] at h2
  split at h2
  · cases h2
    obtain ⟨v, _, rfl, h1, w, _, rfl, h2, rfl⟩ := h1
    obtain rfl := (show v = _ from h1)
    obtain rfl := (show w = _ from h2)
    exact call_min2 hc pins s σ H _ us Q I r ⟨_, _, rfl, h3 _ rfl⟩
  · cases h2
theorem bi_gcd : CallR X (.builtin "math.gcd") (rB P .gcd) := by
  intro pins s σ H xs us Q I r ⟨A, ds, d, h1, h2, h3⟩
  simp only [biD] at h2
  split at h2
  · cases h2
    obtain ⟨v, _, rfl, h1, w, _, rfl, h2, rfl⟩ := h1
    obtain rfl := (show v = _ from h1)
    obtain rfl := (show w = _ from h2)
    exact cr_gcd pins s σ H _ us Q I r ⟨_, _, rfl, h3 _ rfl⟩
  · cases h2
theorem bi_all (hc : X.calm = true) : CallR X (.builtin "all") (rB P .all) := by
  intro pins s σ H xs us Q I r ⟨A, ds, d, h1, h2, h3⟩
  simp only [biD] at h2
  split at h2
  · rename_i ys
    cases e : bools ys with
    | none => rw [e] at h2; cases h2
    | some bs =>
      rw [e] at h2
      cases h2
      obtain ⟨v, _, rfl, ⟨a, vs, rfl, e1, r1⟩, rfl⟩ := h1
      rw [bools_map e] at r1
      rw [rps_bls r1] at e1
      exact cr_all hc pins s σ H _ us Q I r ⟨a, bs, rfl, .inl (.inl e1), h3 _ rfl⟩
  · cases h2
theorem bi_any (hc : X.calm = true) : CallR X (.builtin "any") (rB P .any) := by
  intro pins s σ H xs us Q I r ⟨A, ds, d, h1, h2, h3⟩
  simp only [biD] at h2
  split at h2
  · rename_i ys
    cases e : bools ys with
    | none => rw [e] at h2; cases h2
    | some bs =>
      rw [e] at h2
      cases h2
      obtain ⟨v, _, rfl, ⟨a, vs, rfl, e1, r1⟩, rfl⟩ := h1
      rw [bools_map e] at r1
      rw [rps_bls r1] at e1
      exact cr_any hc pins s σ H _ us Q I r ⟨a, bs, rfl, .inl (.inl e1), h3 _ rfl⟩
  · cases h2
/-! ### isinstance against a built-in type -/
def tgNm : Nat → String
  | 0 => "int"
  | 1 => "bool"
  | 2 => "tuple"
  | 3 => "str"
  | 4 => "list"
  | _ => "NoneType"
theorem tyX_of {H : Hp} {A : Addr → Prop} {d : D} {v : V} {k : Nat} (h : RpP P H A v d) (t : tyTag d = some k) : TyX P.K H v (.type (tgNm k)) ∧ k ≤ 9 ∧ (k < 5 ∨ k = 9) := by
  cases d with
  | non => rw [show v = .non from h]; cases t; exact ⟨.base .non, by decide, by decide⟩
  | bl b => rw [show v = .bl b from h]; cases t; exact ⟨.base (.bl _), by decide, by decide⟩
  | int i => rw [show v = .int i from h]; cases t; exact ⟨.base (.int _), by decide, by decide⟩
  | str x => rw [show v = .str x from h]; cases t; exact ⟨.base (.str _), by decide, by decide⟩
  | tup ds =>
    obtain ⟨a, vs, rfl, q, r⟩ := h
    cases t
    refine ⟨?_, by decide, by decide⟩
    rcases q with (q | ⟨o, q⟩) | ⟨o, its, n, q1, q2, _⟩
    · exact .base (.tup q)
    · exact .fTuple q
    · exact .kTuple q1 q2
  | lst ds =>
    obtain ⟨a, vs, rfl, q, r⟩ := h
    cases t
    exact ⟨.base (.lst q), by decide, by decide⟩
  | fn k => cases t
  | ty k => cases t
  | scr ns => cases t
theorem kit_all : ∀ t : _root_.Fin 5, ∀ k : _root_.Fin 10, (k.val < 5 ∨ k.val = 9) → kitB (tgNm k.val) (tyNm t.val) = some (k.val == t.val || (k.val == 1 && t.val == 0)) := by decide +kernel
end
end TT

set_option maxHeartbeats 4000000
namespace TT
open PySem L2 PySem.Spec PyProof.Rows
section
variable {X : Cx} {P : Pg} {C : Orc} {G : List D} {W : WX} {e x y z : Expr} {a b c : IE} {pos : Pos}

theorem pt_plain {ir : IE} (hK : X.K = P.K) (h : PE X e (tI C G P W ir)) (he : ∀ whole, isTrue e X.env whole = (do let v ← whole; standAt e.pos; holding [v] (truthy v))) : PT X e (tT C G P W ir) := by
  refine pt_of (pt_truth h he) fun σ H Q ⟨F, env, hP, E, k⟩ => ⟨F, env, hP, E, (Cont.bind k).mono fun v H1 ⟨p, e1, E1, A1, r1, c1⟩ => ?_⟩
  unfold tst at c1
  cases q : (p.get e1).bind truth with
  | none => rw [q] at c1; exact (show False from c1).elim
  | some t =>
    rw [q] at c1
    obtain ⟨d, hd, ht⟩ := Option.bind_eq_some_iff.mp q
    subst hP
    exact ⟨t, by rw [hK]; exact truth_ok (E1.pd r1 hd) ht, c1 t H1 E1 Adv.refl rfl⟩
/-- a value that is known -/
theorem n_const {d : D} {v : V} {ir : IE} (h : PE X e (tC v)) (hv : ∀ env, ev C G ir env = .ok (.val d) env) (hr : ∀ H A, Rp P H A v d) : PE X e (tI C G P W ir) := by
  refine pe_of h fun σ H Q ⟨F, env, hP, E, k⟩ => ?_
  rw [hv env] at k
  subst hP
  exact k v H E Adv.refl (hr H _)
theorem n_var {i : Nat} {n : Str} {p : Pos} (hN : X.N[i]? = some n) (hv : Vis X.env.scope n) (hd : (n == ("__debug__" : Str)) = false) (hcd : (n == ("__classdict__" : Str)) = false) : PE X (.Name n p) (tI C G P W (.var i)) := by
  refine pe_of (pe_var hN hv hd hcd) fun σ H Q ⟨F, env, hP, E, k⟩ => ?_
  simp only [ev] at k
  split at k
  · rename_i d q
    obtain ⟨v, h1, h2⟩ := E.im i d q
    exact ⟨v, h1, k v H E Adv.refl h2⟩
  · rename_i d q
    obtain ⟨E', A', v, h1, h2⟩ := E.drop q
    exact ⟨v, h1, k v H E' A' h2⟩
  · exact (show False from k).elim
theorem n_pk {i : Nat} {n : Str} {p : Pos} (hN : X.N[i]? = some n) (hv : Vis X.env.scope n) (hd : (n == ("__debug__" : Str)) = false) (hcd : (n == ("__classdict__" : Str)) = false) : PE X (.Name n p) (tI C G P W (.pk i)) := by
  refine pe_of (pe_var hN hv hd hcd) fun σ H Q ⟨F, env, hP, E, k⟩ => ?_
  simp only [ev] at k
  split at k
  · rename_i d q
    unfold gets at q
    cases q1 : env[i]? with
    | none => rw [q1] at q; cases q
    | some s =>
      cases s with
      | no => rw [q1] at q; cases q
      | im d' =>
        obtain ⟨v, h1, h2⟩ := E.im i d' q1
        exact ⟨v, h1, k v H E Adv.refl h1⟩
      | ow m d' =>
        obtain ⟨a, vs, ds, _, h1, _⟩ := E.ow i m d' q1
        exact ⟨_, h1, k _ H E Adv.refl h1⟩
  · exact (show False from k).elim
/-- the end of a step whose result is by value -/
theorem fin_res {F : Frm} {σ : L2.St} {H : Hp} {env : Env} {Q : VK} {d : D} (E : EnvOk F σ H env) (k : Cont F σ (RPd F σ) W H env Q (.ok (.val d) env)) : ResOk F.P H (Av F σ env) Q d := by
  cases d with
  | lst ds => exact fun p vs hp r => k _ _ (E.grow hp) (Adv.grow hp) (E.newLst hp r)
  | tup ds => exact ⟨fun p vs hp r => k _ _ (E.grow hp) (Adv.grow hp) (E.newTup hp r), fun v r => k v H E Adv.refl r⟩
  | _ => exact fun v r => k v H E Adv.refl r
theorem n_op {o : Op} (ha : PE X x (tI C G P W a)) (hb : PE X y (tI C G P W b)) : PE X (.BinOp x (opOf o) y pos) (tI C G P W (.op o a b)) := by
  refine pe_of (pe_op (op_ok (P := P) o) ha hb) fun σ H Q ⟨F, env, hP, E, k⟩ => ?_
  simp only [ev] at k
  refine ⟨F, env, hP, E, (Cont.bind k).mono fun v H1 ⟨p, e1, E1, A1, r1, c1⟩ => ⟨F, e1, hP, E1, (Cont.bind c1).mono fun w H2 ⟨q, e2, E2, A2, r2, c2⟩ => ?_⟩⟩
  have r1' := E1.pdStay A2 r1
  subst hP
  cases h1 : p.get e2 with
  | none => rw [h1] at c2; exact (show False from c2).elim
  | some dx =>
    cases h2 : q.get e2 with
    | none => rw [h1, h2] at c2; exact (show False from c2).elim
    | some dy =>
      cases h3 : opD o dx dy with
      | none => simp only [h1, h2, h3, Option.bind_some, Option.bind, pdv] at c2; exact (show False from c2).elim
      | some d =>
        simp only [h1, h2, h3, Option.bind, pdv] at c2
        exact ⟨_, dx, dy, d, E2.pd r1' h1, E2.pd r2 h2, h3, fin_res E2 c2⟩
theorem n_neg (ha : PE X x (tI C G P W a)) : PE X (.UnaryOp .USub x pos) (tI C G P W (.neg a)) := by
  refine pe_of (pe_un un_neg ha) fun σ H Q ⟨F, env, hP, E, k⟩ => ?_
  simp only [ev] at k
  refine ⟨F, env, hP, E, (Cont.val k).mono fun v H1 ⟨d, e1, E1, A1, r1, c1⟩ => ?_⟩
  cases d with
  | int i =>
    obtain rfl := (show v = _ from r1)
    exact ⟨i, rfl, c1 _ H1 E1 Adv.refl rfl⟩
  | _ => exact (show False from c1).elim
theorem n_cmp (hK : X.K = P.K) (hu : X.A.units + 64 < cLine) {o : Cm} (ha : PE X x (tI C G P W a)) (hb : PE X y (tI C G P W b)) (hm : behindInMarks (cmOf o) y = false) : PE X (.Compare x [cmOf o] [y] pos) (tI C G P W (.cmp o a b)) := by
  refine pe_of (pe_cmpR (cmp_ok hK hu o) ha hb hm) fun σ H Q ⟨F, env, hP, E, k⟩ => ?_
  simp only [ev] at k
  refine ⟨F, env, hP, E, (Cont.bind k).mono fun v H1 ⟨p, e1, E1, A1, r1, c1⟩ => ⟨F, e1, hP, E1, (Cont.bind c1).mono fun w H2 ⟨q, e2, E2, A2, r2, c2⟩ => ?_⟩⟩
  have r1' := E1.pdStay A2 r1
  subst hP
  cases h1 : p.get e2 with
  | none => rw [h1] at c2; exact (show False from c2).elim
  | some dx =>
    cases h2 : q.get e2 with
    | none => rw [h1, h2] at c2; exact (show False from c2).elim
    | some dy =>
      cases h3 : cmpD o dx dy with
      | none => simp only [h1, h2, h3, Option.bind, Option.map, pdv] at c2; exact (show False from c2).elim
      | some d =>
        simp only [h1, h2, h3, Option.bind, Option.map, pdv] at c2
        exact ⟨_, dx, dy, d, E2.pd r1' h1, E2.pd r2 h2, h3, c2 _ H2 E2 Adv.refl rfl⟩
theorem p_cmp (hK : X.K = P.K) (hu : X.A.units + 64 < cLine) {o : Cm} (ha : PE X x (tI C G P W a)) (hb : PE X y (tI C G P W b)) (hm : behindInMarks (cmOf o) y = false) : PT X (.Compare x [cmOf o] [y] pos) (tT C G P W (.cmp o a b)) := by
  refine pt_of (pt_cmpR (cmp_ok hK hu o) ha hb hm) fun σ H Q ⟨F, env, hP, E, k⟩ => ?_
  simp only [evT, ev, Out.assoc] at k
  refine ⟨F, env, hP, E, (Cont.bind k).mono fun v H1 ⟨p, e1, E1, A1, r1, c1⟩ => ⟨F, e1, hP, E1, (Cont.bind c1).mono fun w H2 ⟨q, e2, E2, A2, r2, c2⟩ => ?_⟩⟩
  have r1' := E1.pdStay A2 r1
  subst hP
  cases h1 : p.get e2 with
  | none => rw [h1] at c2; exact (show False from c2).elim
  | some dx =>
    cases h2 : q.get e2 with
    | none => rw [h1, h2] at c2; exact (show False from c2).elim
    | some dy =>
      cases h3 : cmpD o dx dy with
      | none => simp only [h1, h2, h3, Option.bind, Option.map, pdv] at c2; exact (show False from c2).elim
      | some d =>
        simp only [h1, h2, h3, Option.bind, Option.map, pdv] at c2
        exact ⟨_, dx, dy, d, E2.pd r1' h1, E2.pd r2 h2, h3, d, rfl, c2 d H2 E2 Adv.refl rfl⟩
theorem n_chn (hK : X.K = P.K) (hu : X.A.units + 64 < cLine) {o o' : Cm} (ha : PE X x (tI C G P W a)) (hb : PE X y (tI C G P W b)) (hc : PE X z (tI C G P W c)) (hm : lastMarks [cmOf o, cmOf o'] [y, z] = false) :
    PE X (.Compare x [cmOf o, cmOf o'] [y, z] pos) (tI C G P W (.chn o o' a b c)) := by
  refine pe_of (pe_chain (cmp_ok hK hu o) (cmp_ok hK hu o') ha hb hc hm) fun σ H Q ⟨F, env, hP, E, k⟩ => ?_
  simp only [ev] at k
  refine ⟨F, env, hP, E, (Cont.val k).mono fun v H1 ⟨dx, e1, E1, A1, r1, c1⟩ => ⟨F, e1, hP, E1, (Cont.val c1).mono fun w H2 ⟨dy, e2, E2, A2, r2, c2⟩ => ?_⟩⟩
  have r1' := E1.stay A2 r1
  cases h3 : cmpD o dx dy with
  | none => rw [h3] at c2; exact (show False from c2).elim
  | some d =>
    rw [h3] at c2
    cases d with
    | false =>
      subst hP
      exact ⟨_, dx, dy, false, .of r1', .of r2, h3, false, rfl, iteF (c2 _ H2 E2 Adv.refl rfl)⟩
    | true =>
      refine ⟨_, dx, dy, true, .of (by rw [← hP]; exact r1'), .of (by rw [← hP]; exact r2), h3, true, rfl, iteT ?_⟩
      refine ⟨F, e2, hP, E2, (Cont.val c2).mono fun u H3 ⟨dz, e3, E3, A3, r3, c3⟩ => ?_⟩
      have r2' := E2.stay A3 r2
      subst hP
      cases h4 : cmpD o' dy dz with
      | none => rw [h4] at c3; exact (show False from c3).elim
      | some d =>
        rw [h4] at c3
        exact ⟨_, dy, dz, d, .of r2', .of r3, h4, c3 _ H3 E3 Adv.refl rfl⟩
theorem p_chn (hK : X.K = P.K) (hu : X.A.units + 64 < cLine) {o o' : Cm} (ha : PE X x (tI C G P W a)) (hb : PE X y (tI C G P W b)) (hc : PE X z (tI C G P W c)) (hm : lastMarks [cmOf o, cmOf o'] [y, z] = false) :
    PT X (.Compare x [cmOf o, cmOf o'] [y, z] pos) (tT C G P W (.chn o o' a b c)) := by
  refine pt_of (pt_chain (cmp_ok hK hu o) (cmp_ok hK hu o') ha hb hc hm) fun σ H Q ⟨F, env, hP, E, k⟩ => ?_
  simp only [evT, ev, Out.assocV] at k
  refine ⟨F, env, hP, E, (Cont.val k).mono fun v H1 ⟨dx, e1, E1, A1, r1, c1⟩ => ⟨F, e1, hP, E1, (Cont.val c1).mono fun w H2 ⟨dy, e2, E2, A2, r2, c2⟩ => ?_⟩⟩
  have r1' := E1.stay A2 r1
  cases h3 : cmpD o dx dy with
  | none => rw [h3] at c2; exact (show False from c2).elim
  | some d =>
    rw [h3] at c2
    cases d with
    | false =>
      subst hP
      exact ⟨_, dx, dy, false, .of r1', .of r2, h3, false, rfl, iteF ⟨false, rfl, c2 _ H2 E2 Adv.refl rfl⟩⟩
    | true =>
      refine ⟨_, dx, dy, true, .of (by rw [← hP]; exact r1'), .of (by rw [← hP]; exact r2), h3, true, rfl, iteT ?_⟩
      simp only [Out.assocV] at c2
      refine ⟨F, e2, hP, E2, (Cont.val c2).mono fun u H3 ⟨dz, e3, E3, A3, r3, c3⟩ => ?_⟩
      have r2' := E2.stay A3 r2
      subst hP
      cases h4 : cmpD o' dy dz with
      | none => rw [h4] at c3; exact (show False from c3).elim
      | some d =>
        rw [h4] at c3
        exact ⟨_, dy, dz, d, .of r2', .of r3, h4, d, rfl, c3 _ H3 E3 Adv.refl rfl⟩
/-! ### and, or, not, if -/
theorem tst_ok {F : Frm} {σ : L2.St} {H : Hp} {env : Env} {v : V} {p : Pd} {β γ : Type} {R : Hp → Env → β → γ → Prop} {Q : β → Hp → Prop} {l : Bool → Env → Out γ} (E : EnvOk F σ H env) (r : PdOk F σ H env v p)
    (k : Cont F σ R W H env Q ((tst p env).bind l)) : ∃ t, TruV F.P.K v H t ∧ (p.get env).bind truth = some t ∧ Cont F σ R W H env Q (l t env) := by
  unfold tst at k
  cases q : (p.get env).bind truth with
  | none => rw [q] at k; exact (show False from k).elim
  | some t =>
    rw [q] at k
    obtain ⟨d, hd, ht⟩ := Option.bind_eq_some_iff.mp q
    exact ⟨t, truth_ok (E.pd r hd) ht, rfl, k⟩
theorem ev_and {env : Env} : ev C G (.and a b) env = (ev C G a env).bind fun p e1 => (tst p e1).bind fun t e2 => if t = true then ev C G b e2 else .ok p e2 := by
  simp only [ev]
  congr 1
  funext p e1
  unfold tst
  cases (p.get e1).bind truth with
  | none => rfl
  | some t => cases t <;> rfl
theorem ev_or {env : Env} : ev C G (.or a b) env = (ev C G a env).bind fun p e1 => (tst p e1).bind fun t e2 => if t = true then .ok p e2 else ev C G b e2 := by
  simp only [ev]
  congr 1
  funext p e1
  unfold tst
  cases (p.get e1).bind truth with
  | none => rfl
  | some t => cases t <;> rfl
theorem ev_not {env : Env} : ev C G (.not a) env = (ev C G a env).bind fun p e1 => (tst p e1).bind fun t e2 => .ok (.val (.bl (!t))) e2 := by
  simp only [ev]
  congr 1
  funext p e1
  unfold tst
  cases (p.get e1).bind truth with
  | none => rfl
  | some t => rfl
theorem ev_ite {env : Env} : ev C G (.ite c a b) env = (evT C G c env).bind fun t e2 => if t = true then ev C G a e2 else ev C G b e2 := by
  simp only [ev, evT, Out.assoc]
  congr 1
  funext p e1
  unfold tst
  cases (p.get e1).bind truth with
  | none => rfl
  | some t => cases t <;> rfl
theorem n_and {rest : List Expr} (hK : X.K = P.K) (ha : PE X x (tI C G P W a)) (hb : PE X (.BoolOp .And (y :: rest) pos) (tI C G P W b)) : PE X (.BoolOp .And (x :: y :: rest) pos) (tI C G P W (.and a b)) := by
  refine pe_of (pe_andT ha hb) fun σ H Q ⟨F, env, hP, E, k⟩ => ?_
  rw [ev_and] at k
  refine ⟨F, env, hP, E, (Cont.bind k).mono fun v H1 ⟨p, e1, E1, A1, r1, c1⟩ => ?_⟩
  obtain ⟨t, h1, h2, c2⟩ := tst_ok E1 r1 c1
  refine ⟨t, by rw [hK, ← hP]; exact h1, ?_⟩
  cases t with
  | true => exact iteT ⟨F, e1, hP, E1, c2⟩
  | false => exact iteF (c2 v H1 E1 Adv.refl r1)
theorem n_or {rest : List Expr} (hK : X.K = P.K) (ha : PE X x (tI C G P W a)) (hb : PE X (.BoolOp .Or (y :: rest) pos) (tI C G P W b)) : PE X (.BoolOp .Or (x :: y :: rest) pos) (tI C G P W (.or a b)) := by
  refine pe_of (pe_orT ha hb) fun σ H Q ⟨F, env, hP, E, k⟩ => ?_
  rw [ev_or] at k
  refine ⟨F, env, hP, E, (Cont.bind k).mono fun v H1 ⟨p, e1, E1, A1, r1, c1⟩ => ?_⟩
  obtain ⟨t, h1, h2, c2⟩ := tst_ok E1 r1 c1
  refine ⟨t, by rw [hK, ← hP]; exact h1, ?_⟩
  cases t with
  | true => exact iteT (c2 v H1 E1 Adv.refl r1)
  | false => exact iteF ⟨F, e1, hP, E1, c2⟩
theorem n_not (hK : X.K = P.K) (ha : PE X x (tI C G P W a)) : PE X (.UnaryOp .Not x pos) (tI C G P W (.not a)) := by
  refine pe_of (pe_notT ha) fun σ H Q ⟨F, env, hP, E, k⟩ => ?_
  rw [ev_not] at k
  refine ⟨F, env, hP, E, (Cont.bind k).mono fun v H1 ⟨p, e1, E1, A1, r1, c1⟩ => ?_⟩
  obtain ⟨t, h1, h2, c2⟩ := tst_ok E1 r1 c1
  exact ⟨t, by rw [hK, ← hP]; exact h1, c2 _ H1 E1 Adv.refl rfl⟩
theorem n_ite {u : Expr} (hc : PT X u (tT C G P W c)) (ha : PE X x (tI C G P W a)) (hb : PE X y (tI C G P W b)) : PE X (.IfExp u x y pos) (tI C G P W (.ite c a b)) := by
  refine pe_of (pe_ifExp hc ha hb) fun σ H Q ⟨F, env, hP, E, k⟩ => ?_
  rw [ev_ite] at k
  refine ⟨F, env, hP, E, (Cont.bind k).mono fun t H1 ⟨t', e1, E1, A1, r1, c1⟩ => ?_⟩
  obtain rfl := (show t = t' from r1)
  cases t with
  | true => exact iteT ⟨F, e1, hP, E1, c1⟩
  | false => exact iteF ⟨F, e1, hP, E1, c1⟩
/-- .. as tests -/
theorem evT_and {env : Env} : evT C G (.and a b) env = (evT C G a env).bind fun t e2 => if t = true then evT C G b e2 else .ok false e2 := by
  unfold evT
  rw [ev_and, Out.assoc, Out.assoc]
  congr 1
  funext p e1
  rw [Out.assoc]
  unfold tst
  cases q : (p.get e1).bind truth with
  | none => rfl
  | some t =>
    cases t with
    | true => rfl
    | false =>
      show tst p e1 = _
      unfold tst
      rw [q]
      rfl
theorem evT_or {env : Env} : evT C G (.or a b) env = (evT C G a env).bind fun t e2 => if t = true then .ok true e2 else evT C G b e2 := by
  unfold evT
  rw [ev_or, Out.assoc, Out.assoc]
  congr 1
  funext p e1
  rw [Out.assoc]
  unfold tst
  cases q : (p.get e1).bind truth with
  | none => rfl
  | some t =>
    cases t with
    | false => rfl
    | true =>
      show tst p e1 = _
      unfold tst
      rw [q]
      rfl
theorem evT_not {env : Env} : evT C G (.not a) env = (evT C G a env).bind fun t e2 => .ok (!t) e2 := by
  unfold evT
  rw [ev_not, Out.assoc, Out.assoc]
  congr 1
  funext p e1
  rw [Out.assoc]
  congr 1
theorem p_and {rest : List Expr} (ha : PT X x (tT C G P W a)) (hb : PW X (.BoolOp .And (y :: rest) pos) (tT C G P W b)) : PW X (.BoolOp .And (x :: y :: rest) pos) (tT C G P W (.and a b)) := by
  refine ⟨fun wh pins s σ H Q I w => (pw_and ha hb).run wh pins s σ H Q I ?_⟩
  obtain ⟨F, env, hP, E, k⟩ := w
  rw [evT_and] at k
  refine ⟨F, env, hP, E, (Cont.bind k).mono fun t H1 ⟨t', e1, E1, A1, r1, c1⟩ => ?_⟩
  obtain rfl := (show t = t' from r1)
  cases t with
  | true => exact iteT ⟨F, e1, hP, E1, c1⟩
  | false => exact iteF (c1 false H1 E1 Adv.refl rfl)
theorem p_or {rest : List Expr} (ha : PT X x (tT C G P W a)) (hb : PW X (.BoolOp .Or (y :: rest) pos) (tT C G P W b)) : PW X (.BoolOp .Or (x :: y :: rest) pos) (tT C G P W (.or a b)) := by
  refine ⟨fun wh pins s σ H Q I w => (pw_or ha hb).run wh pins s σ H Q I ?_⟩
  obtain ⟨F, env, hP, E, k⟩ := w
  rw [evT_or] at k
  refine ⟨F, env, hP, E, (Cont.bind k).mono fun t H1 ⟨t', e1, E1, A1, r1, c1⟩ => ?_⟩
  obtain rfl := (show t = t' from r1)
  cases t with
  | false => exact iteF ⟨F, e1, hP, E1, c1⟩
  | true => exact iteT (c1 true H1 E1 Adv.refl rfl)
theorem p_not (ha : PT X x (tT C G P W a)) : PT X (.UnaryOp .Not x pos) (tT C G P W (.not a)) := by
  refine pt_of (pt_not ha) fun σ H Q ⟨F, env, hP, E, k⟩ => ?_
  rw [evT_not] at k
  refine ⟨F, env, hP, E, (Cont.bind k).mono fun t H1 ⟨t', e1, E1, A1, r1, c1⟩ => ?_⟩
  obtain rfl := (show t = t' from r1)
  exact c1 _ H1 E1 Adv.refl rfl
/-! ### displays, subscripts, lists of arguments -/
theorem n_tup {es : List IE} {xs : List Expr} {k : Nat} (h : PA X xs (tL C G P W es)) : PE X (.Tuple xs k pos) (tI C G P W (.tup es)) := by
  refine pe_of (pe_tup h) fun σ H Q ⟨F, env, hP, E, k⟩ => ?_
  simp only [ev] at k
  refine ⟨F, env, hP, E, (Cont.bind k).mono fun vs H1 ⟨ds, e1, E1, A1, r1, c1⟩ => ?_⟩
  split at c1
  · rename_i hz
    exact ⟨sl_le (by rw [Rps.length r1]; exact hz), fun p hp => (fin_res E1 c1).1 p vs hp r1⟩
  · exact (show False from c1).elim
theorem n_lst {es : List IE} {xs : List Expr} (h : PA X xs (tL C G P W es)) : PE X (.List xs pos) (tI C G P W (.lst es)) := by
  refine pe_of (pe_lst h) fun σ H Q ⟨F, env, hP, E, k⟩ => ?_
  simp only [ev] at k
  refine ⟨F, env, hP, E, (Cont.bind k).mono fun vs H1 ⟨ds, e1, E1, A1, r1, c1⟩ => ?_⟩
  split at c1
  · rename_i hz
    exact ⟨sl_le (by rw [Rps.length r1]; exact hz), fun p hp => fin_res E1 c1 p vs hp r1⟩
  · exact (show False from c1).elim
theorem n_ix (hK : X.K = P.K) (ha : PE X x (tI C G P W a)) (hb : PE X y (tI C G P W b)) (hs : PlainIx y) : PE X (.Subscript x y pos) (tI C G P W (.ix a b)) := by
  refine pe_of (pe_ix (ix_ok hK) ha hb hs) fun σ H Q ⟨F, env, hP, E, k⟩ => ?_
  simp only [ev] at k
  refine ⟨F, env, hP, E, (Cont.bind k).mono fun v H1 ⟨p, e1, E1, A1, r1, c1⟩ => ⟨F, e1, hP, E1, (Cont.bind c1).mono fun w H2 ⟨q, e2, E2, A2, r2, c2⟩ => ?_⟩⟩
  have r1' := E1.pdStay A2 r1
  subst hP
  cases h1 : p.get e2 with
  | none => rw [h1] at c2; exact (show False from c2).elim
  | some dx =>
    cases h2 : q.get e2 with
    | none => rw [h1, h2] at c2; exact (show False from c2).elim
    | some dy =>
      cases h3 : ixD dx dy with
      | none => simp only [h1, h2, h3, Option.bind, pdv] at c2; exact (show False from c2).elim
      | some d =>
        simp only [h1, h2, h3, Option.bind, pdv] at c2
        exact ⟨_, dx, dy, d, E2.pd r1' h1, E2.pd r2 h2, h3, fun v r => c2 v H2 E2 Adv.refl r⟩
theorem a_nil : PA X [] (tA C G P W []) := by
  refine pa_of pa_nil fun σ H Q ⟨F, env, hP, E, k⟩ => ?_
  simp only [evP] at k
  exact k [] H E Adv.refl rfl
theorem a_cons {es : List IE} {xs : List Expr} (h : PE X x (tI C G P W a)) (hr : PA X xs (tA C G P W es)) (hs : starEach (x :: xs) X.env = (false, eval x X.env) :: starEach xs X.env) : PA X (x :: xs) (tA C G P W (a :: es)) := by
  refine pa_of (pa_cons h hr hs) fun σ H Q ⟨F, env, hP, E, k⟩ => ?_
  simp only [evP] at k
  refine ⟨F, env, hP, E, (Cont.bind k).mono fun v H1 ⟨p, e1, E1, A1, r1, c1⟩ => ⟨F, e1, hP, E1, (Cont.bind c1).mono fun vs H2 ⟨ps, e2, E2, A2, r2, c2⟩ => ?_⟩⟩
  exact c2 (v :: vs) H2 E2 Adv.refl ⟨v, vs, rfl, E1.pdStay A2 r1, r2⟩
theorem l_nil : PA X [] (tL C G P W []) := by
  refine pa_of pa_nil fun σ H Q ⟨F, env, hP, E, k⟩ => ?_
  simp only [evL] at k
  exact k [] H E Adv.refl rfl
theorem evL_cons {e : IE} {es : List IE} {env : Env} (h : ∀ a, e ≠ .star a) : evL C G (e :: es) env = (ev C G e env).val fun d e1 => (evL C G es e1).bind fun ys e2 => .ok (d :: ys) e2 := by
  cases e <;> first | rfl | exact absurd rfl (h _)
theorem l_cons {es : List IE} {xs : List Expr} (h : PE X x (tI C G P W a)) (hr : PA X xs (tL C G P W es)) (hn : ∀ z, a ≠ .star z) (hs : starEach (x :: xs) X.env = (false, eval x X.env) :: starEach xs X.env) : PA X (x :: xs) (tL C G P W (a :: es)) := by
  refine pa_of (pa_cons h hr hs) fun σ H Q ⟨F, env, hP, E, k⟩ => ?_
  rw [evL_cons hn] at k
  refine ⟨F, env, hP, E, (Cont.val k).mono fun v H1 ⟨d, e1, E1, A1, r1, c1⟩ => ⟨F, e1, hP, E1, (Cont.bind c1).mono fun vs H2 ⟨ds, e2, E2, A2, r2, c2⟩ => ?_⟩⟩
  exact c2 (v :: vs) H2 E2 Adv.refl ⟨v, vs, rfl, E1.stay A2 r1, r2⟩
theorem l_star {es : List IE} {xs : List Expr} {pp : Pos} (hK : X.K = P.K) (h : PE X x (tI C G P W a)) (hr : PA X xs (tL C G P W es)) : PA X (.Starred x pp :: xs) (tL C G P W (.star a :: es)) := by
  refine pa_of (StX.pa_star h hr rfl) fun σ H Q ⟨F, env, hP, E, k⟩ => ?_
  simp only [evL] at k
  refine ⟨F, env, hP, E, (Cont.bind k).mono fun v H1 ⟨p, e1, E1, A1, r1, c1⟩ => ?_⟩
  cases h1 : p.get e1 with
  | none => rw [h1] at c1; exact (show False from c1).elim
  | some d =>
    have q1 := E1.pd r1 h1
    rw [h1] at c1
    cases d with
    | lst ds =>
      obtain ⟨l, vs, rfl, q2, q3⟩ := q1
      refine ⟨l, vs, rfl, .inr (.inl (.inl q2)), F, e1, hP, E1, (Cont.bind c1).mono fun ws H2 ⟨es', e2, E2, A2, r2, c2⟩ => c2 _ H2 E2 Adv.refl ((E1.stays A2 q3).app r2)⟩
    | tup ds =>
      obtain ⟨l, vs, rfl, q2, q3⟩ := q1
      refine ⟨l, vs, rfl, .inl (by rw [hK, ← hP]; exact q2), F, e1, hP, E1, (Cont.bind c1).mono fun ws H2 ⟨es', e2, E2, A2, r2, c2⟩ => c2 _ H2 E2 Adv.refl ((E1.stays A2 q3).app r2)⟩
    | _ => exact (show False from c1).elim
end
end TT

set_option maxHeartbeats 4000000
namespace TT
open PySem L2 PySem.Spec PyProof.Rows
section
variable {X : Cx} {P : Pg} {C : Orc} {G : List D} {W : WX} {e x y z : Expr} {a b c : IE} {pos : Pos}

/-! ### calls -/
theorem rps_any {F : Frm} {σ : L2.St} {H : Hp} {env : Env} (E : EnvOk F σ H env) : ∀ {ps : List Pd} {vs : List V} {ds : List D}, PdsOk F σ H env vs ps → getsAll env ps = some ds → RpPs F.P H (Av F σ env) vs ds ∧ Rps F.P H (fun _ => False) vs ds ∧ (ps.any isPk = false → Rps F.P H (Av F σ env) vs ds)
  | [], vs, ds, h, k => by
    cases k
    exact ⟨h, h, fun _ => h⟩
  | p :: ps, vs, ds, ⟨v, r, e, h, hr⟩, k => by
    unfold getsAll at k
    cases h1 : p.get env with
    | none => rw [h1] at k; cases k
    | some d =>
      cases h2 : getsAll env ps with
      | none => simp only [h1, h2, Option.bind, Option.map] at k; cases k
      | some es =>
        simp only [h1, h2, Option.bind, Option.map] at k
        cases k
        obtain ⟨q1, q2, q3⟩ := rps_any E hr h2
        have q := E.pd h h1
        subst e
        refine ⟨⟨v, r, rfl, q, q1⟩, ⟨v, r, rfl, ?_, q2⟩, fun n => ?_⟩
        · have dn : ∀ {w : V} {d : D}, Rp F.P H (Av F σ env) w d → Rp F.P H (fun _ => False) w d := fun h => Rp.imp (fun _ _ q => q) (fun _ _ _ q => ⟨fun z => z, q⟩) h
          have dns : ∀ {w : List V} {d : List D}, Rps F.P H (Av F σ env) w d → Rps F.P H (fun _ => False) w d := fun h => Rps.imp (fun _ _ q => q) (fun _ _ _ q => ⟨fun z => z, q⟩) h
          cases d with
          | lst ds =>
            obtain ⟨l, ws, z1, z2, z3⟩ := q
            exact ⟨l, ws, z1, fun z => z, z2, dns z3⟩
          | _ => exact dn q
        · simp only [List.any_cons, Bool.or_eq_false_iff] at n
          cases p with
          | val d' =>
            cases h1
            exact ⟨v, r, rfl, h, q3 n.2⟩
          | pk i => cases n.1
theorem n_call {f : Nat} {k : Nat} {n : Str} {p : Pos} {es : List IE} {xs : List Expr} (F : FnR X.prog X.w X.K X.mg X.base (L2.CX X.prog X.w) k (P.fa f) (spO P C f)) (hr : Room k X.A) (hg : Gl X n) (hm : X.mg n = some (.ref (P.fa f)))
    (hk : PySem.W.keepIn X.K (.ref (P.fa f)) = true) (tk : Takes X W) (ha : PA X (x :: xs) (tA C G P W es)) (hdb : (n == ("__debug__" : Str)) = false)
    (he : starEach (x :: xs) X.env = (false, eval x X.env) :: starEach xs X.env) (hpl : (backTo pos (starEach xs X.env)).any (·.1) = false) :
    PE X (.Call (.Name n p) (x :: xs) [] pos) (tI C G P W (.call f es)) := by
  refine pe_of (pe_callF F hr hg hm hk tk ha hdb he hpl) fun σ H Q ⟨F', env, hP, E, k⟩ => ?_
  simp only [ev] at k
  refine ⟨F', env, hP, E, (Cont.bind k).mono fun vs H1 ⟨ps, e1, E1, A1, r1, c1⟩ => ?_⟩
  cases h1 : getsAll e1 ps with
  | none => rw [h1] at c1; exact (show False from c1).elim
  | some ds =>
    obtain ⟨q1, q2, q3⟩ := rps_any E1 r1 h1
    rw [h1] at c1
    subst hP
    cases hpk : ps.any isPk with
    | true =>
      refine ⟨ds, _, q2, fun _ z => z.elim, ?_⟩
      cases h2 : C f ds with
      | ok d o =>
        simp only [h2, hpk, Bool.true_and] at c1 ⊢
        split at c1
        · exact (show False from c1).elim
        · rename_i hf
          have hf : flat d = true := by simpa using hf
          exact fun v H' st r => c1 v H' (E1.mono st) (Adv.same st) (Rp.flat hf r)
      | exc xx => simp only [h2, hpk, if_true] at c1; exact (show False from c1).elim
      | bad => simp only [h2] at c1; exact (show False from c1).elim
    | false =>
      refine ⟨ds, _, q3 hpk, fun _ z => E1.av_tr z, ?_⟩
      cases h2 : C f ds with
      | ok d o =>
        simp only [h2, hpk, Bool.false_and, Bool.false_eq_true, if_false] at c1 ⊢
        exact fun v H' st r => c1 v H' (E1.mono st) (Adv.same st) r
      | exc xx =>
        simp only [h2, hpk, Bool.false_eq_true, if_false] at c1 ⊢
        exact fun cls dd H' st r => c1 cls dd H' (E1.mono st) (Adv.same st) r
      | bad => simp only [h2] at c1; exact (show False from c1).elim
theorem n_calls {f : Nat} {k : Nat} {n : Str} {p : Pos} {es : List IE} {xs : List Expr} (F : FnR X.prog X.w X.K X.mg X.base (L2.CX X.prog X.w) k (P.fa f) (spS P C f)) (hr : Room k X.A) (hg : Gl X n) (hm : X.mg n = some (.ref (P.fa f)))
    (hk : PySem.W.keepIn X.K (.ref (P.fa f)) = true) (tk : Takes X W) (ha : PA X (x :: xs) (tL C G P W es)) (hdb : (n == ("__debug__" : Str)) = false)
    (he : starEach (x :: xs) X.env = (false, eval x X.env) :: starEach xs X.env) (hpl : (backTo pos (starEach xs X.env)).any (·.1) = false) :
    PE X (.Call (.Name n p) (x :: xs) [] pos) (tI C G P W (.calls f es)) := by
  refine pe_of (pe_callF F hr hg hm hk tk ha hdb he hpl) fun σ H Q ⟨F', env, hP, E, k⟩ => ?_
  simp only [ev] at k
  refine ⟨F', env, hP, E, (Cont.bind k).mono fun vs H1 ⟨ds, e1, E1, A1, r1, c1⟩ => ?_⟩
  split at c1
  · rename_i hz
    subst hP
    refine ⟨sl_le (by rw [Rps.length r1]; exact hz), fun l hl => ?_⟩
    refine ⟨[.tup ds], Av F' σ e1, ⟨_, _, rfl, E1.newTup hl r1, rfl⟩, fun q z => (Adv.grow (σ := σ) (env := e1) hl).tr q (E1.av_tr z), ?_⟩
    have E1' := E1.grow (o := .tup vs) hl
    have A1' : Adv σ e1 H1 σ e1 (upd H1 l (.tup vs)) := Adv.grow hl
    cases h2 : C f [.tup ds] with
    | ok d o =>
      simp only [h2] at c1 ⊢
      exact fun v H' st r => c1 v H' (E1'.mono st) (A1'.trans (Adv.same st)) r
    | exc xx =>
      simp only [h2] at c1 ⊢
      exact fun cls dd H' st r => c1 cls dd H' (E1'.mono st) (A1'.trans (Adv.same st)) r
    | bad => simp only [h2] at c1; exact (show False from c1).elim
  · exact (show False from c1).elim
theorem n_mcall {f : Nat} {k i : Nat} {n m : Str} {p p2 : Pos} {es : List IE} {xs : List Expr} (F : FnR X.prog X.w X.K X.mg X.base (L2.CX X.prog X.w) k (P.fa f) (spM P C f)) (hr : Room k X.A) (hg : Gl X n) (hm : X.mg n = some (.ref (P.fa f)))
    (hk : PySem.W.keepIn X.K (.ref (P.fa f)) = true) (tk : Takes X W) (hN : X.N[i]? = some m) (hv : Vis X.env.scope m) (hd : (m == ("__debug__" : Str)) = false) (hcd : (m == ("__classdict__" : Str)) = false) (ha : PA X xs (tL C G P W es)) (hdb : (n == ("__debug__" : Str)) = false)
    (hpl : (backTo pos (starEach xs X.env)).any (·.1) = false) :
    PE X (.Call (.Name n p) (.Name m p2 :: xs) [] pos) (tI C G P W (.mcall f i es)) := by
  refine pe_of (pe_callF F hr hg hm hk tk (pa_cons (pe_var hN hv hd hcd) ha rfl) hdb rfl hpl) fun σ H Q ⟨F', env, hP, E, k⟩ => ?_
  simp only [ev] at k
  split at k
  · exact (show False from k).elim
  rename_i hn
  have hv : ∃ v, σ[i]? = some (some v) := by
    cases q : gets env i with
    | none => rw [q] at hn; exact absurd rfl hn
    | some d =>
      unfold gets at q
      cases q1 : env[i]? with
      | none => rw [q1] at q; cases q
      | some s =>
        cases s with
        | no => rw [q1] at q; cases q
        | im d' =>
          obtain ⟨v, h1, h2⟩ := E.im i d' q1
          exact ⟨v, h1⟩
        | ow m d' =>
          obtain ⟨a, vs, ds, _, h1, _⟩ := E.ow i m d' q1
          exact ⟨_, h1⟩
  obtain ⟨v, hv⟩ := hv
  refine ⟨v, hv, F', env, hP, E, (Cont.bind k).mono fun vs H1 ⟨ds, e1, E1, A1, r1, c1⟩ => ?_⟩
  split at c1
  · rename_i mm d0 q
    obtain ⟨l, ws, es0, z0, z1, z2, z3, z4⟩ := E1.ow i _ _ q
    cases z0
    rw [hv] at z1
    cases z1
    subst hP
    refine ⟨l, ws, _, vs, ds, Av F' σ e1, rfl, z2, z3, r1, .inr ⟨i, _, _, q, hv⟩, fun _ z => E1.av_tr z, ?_⟩
    split at c1
    · rename_i d d1 h2
      try rw [h2]
      intro v H' ws' st hl rl rv
      obtain ⟨E2, A2⟩ := E1.change q hv st hl rl
      exact c1 v H' E2 A2 (by show Rp F'.P H' (Av F' σ _) v d; rw [Av_ow q]; exact rv)
    · exact (show False from c1).elim
  · exact (show False from c1).elim
/-! ### built-ins -/
theorem bi_end {bb : Bi} {es : List IE} {r : List V → Hp → VK → Prop} (hr : r = rB P bb) : ∀ σ H Q, tI C G P W (.bi bb es) σ H Q → tCB r (tA C G P W es) σ H Q := by
  intro σ H Q ⟨F', env, hP, E, k⟩
  simp only [ev] at k
  refine ⟨F', env, hP, E, (Cont.bind k).mono fun vs H1 ⟨ps, e1, E1, A1, r1, c1⟩ => ?_⟩
  cases h1 : getsAll e1 ps with
  | none => rw [h1] at c1; exact (show False from c1).elim
  | some ds =>
    obtain ⟨q1, _, _⟩ := rps_any E1 r1 h1
    cases h2 : biD bb ds with
    | none => simp only [h1, h2, Option.bind, pdv] at c1; exact (show False from c1).elim
    | some d =>
      simp only [h1, h2, Option.bind, pdv] at c1
      subst hr hP
      exact ⟨_, ds, d, q1, h2, fin_res E1 c1⟩
theorem n_isi {t : Nat} {n m : Str} {p p2 : Pos} (hK : X.K = P.K) (hm : X.mg ("isinstance" : Str) = none) (hn : n = ("isinstance" : Str)) (hg : Gl X n) (hg2 : Gl X m) (hm2 : X.mg m = none) (hb : bootBuiltins m = some (.type (tyNm t))) (h1 : m ≠ "__name__") (h2 : (m == ("__debug__" : Str)) = false)
    (ha : PE X y (tI C G P W a)) (hs : starEach (y :: [.Name m p2]) X.env = (false, eval y X.env) :: starEach [.Name m p2] X.env) : PE X (.Call (.Name n p) [y, .Name m p2] [] pos) (tI C G P W (.isi t a)) := by
  subst hn
  refine pe_of (pe_callB call_isi hg hm (by decide +kernel) (pa_cons ha (pa_cons (pe_bltn (v := .ty (tyNm t)) hg2 hm2 hb rfl h1 h2) pa_nil rfl) hs) (by decide) (by decide) hs rfl) fun σ H Q ⟨F', env, hP, E, k⟩ => ?_
  simp only [ev] at k
  refine ⟨F', env, hP, E, (Cont.bind k).mono fun v H1 ⟨p1, e1, E1, A1, r1, c1⟩ => ?_⟩
  cases q1 : p1.get e1 with
  | none => rw [q1] at c1; exact (show False from c1).elim
  | some d =>
    cases q2 : isiD t d with
    | none => simp only [q1, q2, Option.bind, Option.map, pdv] at c1; exact (show False from c1).elim
    | some bb =>
      simp only [q1, q2, Option.bind, Option.map, pdv] at c1
      have r := E1.pd r1 q1
      unfold isiD at q2
      split at q2
      · rename_i ht
        cases q3 : tyTag d with
        | none => rw [q3] at q2; cases q2
        | some kk =>
          rw [q3] at q2
          cases q2
          obtain ⟨z1, z2, z3⟩ := tyX_of r q3
          have kt := kit_ty (K := X.K) (kit_all ⟨t, ht⟩ ⟨kk, by omega⟩ z3)
          exact ⟨v, .ty (tyNm t), _, _, _, rfl, .ty _, by rw [hK, ← hP]; exact z1, kt, c1 _ H1 E1 Adv.refl rfl⟩
      · cases q2
end
end TT

set_option maxHeartbeats 4000000
namespace TT
open PySem L2 PySem.Spec PyProof.Rows

/-! ### comprehensions -/
section
variable {F : Frm} {σ σ' : L2.St} {H H' H1 : Hp} {env env' e1 : Env} {D0 : Addr}
/-- an address more to stay away from -/
abbrev Frm.guard (F : Frm) (a : Addr) : Frm := { F with Z := fun b => F.Z b ∨ b = a }
theorem sqt_st {K : PySem.W.Frag} {a : Addr} {vs : List V} (st : ∀ o, H a = some o → (∀ ws, o ≠ .lst ws) → H' a = some o) (q : SqT K H a vs) : SqT K H' a vs := by
  rcases q with (q | ⟨u, q⟩) | q
  · exact .inl (.inl (st _ q fun ws z => by cases z))
  · exact .inl (.inr ⟨u, st _ q fun ws z => by cases z⟩)
  · exact .inr q
theorem new_st {A A' : Addr → Prop} {o : HO} (hD : H D0 = none) (hA : ∀ a, A' a → A a ∨ a = D0) (a : Addr) (u : HO) (n : ¬ A a) (q : H a = some u) : ¬ A' a ∧ upd H D0 o a = some u := by
  refine ⟨fun z => ?_, grow_st hD _ _ q⟩
  rcases hA a z with z | z
  · exact n z
  · rw [z, hD] at q
    cases q
theorem rp_new {P : Pg} {A A' : Addr → Prop} {o : HO} (hD : H D0 = none) (hA : ∀ a, A' a → A a ∨ a = D0) {d : D} {v : V} (h : Rp P H A v d) : Rp P (upd H D0 o) A' v d :=
  Rp.imp (fun a vs q => sqt_st (fun o h _ => grow_st hD _ _ h) q) (fun a u n q => new_st hD hA a u n q) h
theorem rps_new {P : Pg} {A A' : Addr → Prop} {o : HO} (hD : H D0 = none) (hA : ∀ a, A' a → A a ∨ a = D0) {d : List D} {v : List V} (h : Rps P H A v d) : Rps P (upd H D0 o) A' v d :=
  Rps.imp (fun a vs q => sqt_st (fun o h _ => grow_st hD _ _ h) q) (fun a u n q => new_st hD hA a u n q) h
theorem av_guard {a : Addr} : ∀ b, Av (F.guard a) σ env b → Av F σ env b ∨ b = a := fun b w => by
  rcases w with (w | w) | w
  · exact .inl (.inl w)
  · exact .inr w
  · exact .inl (.inr w)
theorem EnvOk.guard {o : HO} (E : EnvOk F σ H env) (hD : H D0 = none) : EnvOk (F.guard D0) σ (upd H D0 o) env where
  len := E.len
  im := fun i d h => by
    obtain ⟨v, h1, h2⟩ := E.im i d h
    exact ⟨v, h1, rp_new hD av_guard h2⟩
  ow := fun i m d h => by
    obtain ⟨a, vs, ds, h0, h1, h2, h3, h4⟩ := E.ow i m d h
    refine ⟨a, vs, ds, h0, h1, grow_st hD _ _ h2, rps_new hD av_guard h3, fun z => ⟨(h4.1 z).1, fun w => ?_⟩, h4.2⟩
    rcases w with w | w
    · exact (h4.1 z).2 w
    · rw [w, hD] at h2; cases h2
  un := E.un
  z := fun a w => by
    rcases w with w | w
    · exact (Adv.grow (σ := σ) (env := env) hD).tr a (E.z a w)
    · rw [w, upd_same]; simp
  fr := fun a o h m => grow_st hD _ _ (E.fr a o h m)
  mutd := fun a m => by
    obtain ⟨xs, e⟩ := E.mutd a m
    exact ⟨xs, grow_st hD _ _ e⟩
/-- the guarded list changes -/
theorem poke_st {o u : HO} (hD : H D0 = some o) : ∀ a w, a ≠ D0 → H a = some w → upd H D0 u a = some w := fun a w n e => by rw [upd_ne n]; exact e
theorem poke_t {K : PySem.W.Frag} {xs : List V} {u : HO} (hD : H D0 = some (.lst xs)) (a : Addr) (vs : List V) (q : SqT K H a vs) : SqT K (upd H D0 u) a vs :=
  sqt_st (fun o h n => poke_st hD _ _ (fun z => by
    rw [z, hD] at h
    exact n xs (Option.some.inj h).symm) h) q
theorem rp_poke {P : Pg} {A : Addr → Prop} {xs : List V} {u : HO} (hD : H D0 = some (.lst xs)) (hA : A D0) {d : D} {v : V} (h : Rp P H A v d) : Rp P (upd H D0 u) A v d :=
  Rp.imp (poke_t hD) (fun a w n q => ⟨n, poke_st hD _ _ (fun z => n (by rw [z]; exact hA)) q⟩) h
theorem rps_poke {P : Pg} {A : Addr → Prop} {xs : List V} {u : HO} (hD : H D0 = some (.lst xs)) (hA : A D0) {d : List D} {v : List V} (h : Rps P H A v d) : Rps P (upd H D0 u) A v d :=
  Rps.imp (poke_t hD) (fun a w n q => ⟨n, poke_st hD _ _ (fun z => n (by rw [z]; exact hA)) q⟩) h
theorem EnvOk.pokeTo (E : EnvOk (F.guard D0) σ H env) {xs ys : List V} (hD : H D0 = some (.lst xs)) (h0 : F.H0 D0 = none) (hM : ¬ F.M D0) (st : ∀ b o, b ≠ D0 → H b = some o → H' b = some o) (hn : H' D0 = some (.lst ys)) : EnvOk (F.guard D0) σ H' env := by
  have tt : ∀ a vs, SqT F.P.K H a vs → SqT F.P.K H' a vs := fun a vs q => sqt_st (fun o h n => st _ _ (fun z => by
    rw [z, hD] at h
    exact n xs (Option.some.inj h).symm) h) q
  have ll : ∀ a o, ¬ Av (F.guard D0) σ env a → H a = some o → ¬ Av (F.guard D0) σ env a ∧ H' a = some o := fun a o n q => ⟨n, st _ _ (fun z => n (.inl (.inr z))) q⟩
  refine ⟨E.len, fun i d h => ?_, fun i m d h => ?_, E.un, fun a w => ?_, fun a o h m => st _ _ (fun z => by rw [z, h0] at h; cases h) (E.fr a o h m), fun a m => ?_⟩
  · obtain ⟨v, h1, h2⟩ := E.im i d h
    exact ⟨v, h1, Rp.imp tt ll h2⟩
  · obtain ⟨a, vs, ds, z0, h1, h2, h3, h4⟩ := E.ow i m d h
    have n : a ≠ D0 := fun z => by
      cases m with
      | false => exact (h4.1 rfl).2 (.inr z)
      | true => exact hM (z ▸ h4.2 rfl)
    exact ⟨a, vs, ds, z0, h1, st _ _ n h2, Rps.imp tt ll h3, h4⟩
  · by_cases n : a = D0
    · rw [n, hn]; simp
    · cases q : H a with
      | none => exact absurd q (E.z a w)
      | some o => rw [st _ _ n q]; simp
  · obtain ⟨ws, e⟩ := E.mutd a m
    exact ⟨ws, st _ _ (fun z => hM (z ▸ m)) e⟩
theorem EnvOk.poke (E : EnvOk (F.guard D0) σ H env) {xs ys : List V} (hD : H D0 = some (.lst xs)) (h0 : F.H0 D0 = none) (hM : ¬ F.M D0) : EnvOk (F.guard D0) σ (upd H D0 (.lst ys)) env :=
  E.pokeTo hD h0 hM (fun b o n h => by rw [upd_ne n]; exact h) upd_same
theorem Adv.pokeTo (A : Adv σ e1 H1 σ' env H) (hD : H1 D0 = none) (st : ∀ b o, b ≠ D0 → H b = some o → H' b = some o) (hn : H' D0 ≠ none) : Adv σ e1 H1 σ' env H' where
  ow := A.ow
  st := fun a u h n => st _ _ (fun z => by rw [z, hD] at h; cases h) (A.st a u h n)
  tr := fun a h => by
    by_cases n : a = D0
    · rw [n]; exact hn
    · cases q : H a with
      | none => exact absurd q (A.tr a h)
      | some o => rw [st _ _ n q]; simp
theorem Adv.poke {o : HO} (A : Adv σ e1 H σ' env H') (hD : H D0 = none) : Adv σ e1 H σ' env (upd H' D0 o) where
  ow := A.ow
  st := fun a u h n => by rw [upd_ne (fun z => by rw [z, hD] at h; cases h)]; exact A.st a u h n
  tr := fun a h => by
    by_cases n : a = D0
    · rw [n, upd_same]; simp
    · rw [upd_ne n]; exact A.tr a h

/-! ### wiped slots -/
theorem isNo_set {i : Nat} : σ.set i none = σ.set i none := rfl
theorem EnvOk.wipe (E : EnvOk F σ H env) : ∀ t : List Nat, EnvOk F (L2.wipe σ t) H (wipeE env t)
  | [] => E
  | i :: is => (E.wipe is).put rfl fun d e => by cases e
theorem Adv.wipe : ∀ t : List Nat, Adv σ env H (L2.wipe σ t) (wipeE env t) H
  | [] => Adv.refl
  | i :: is => (Adv.wipe is).trans (Adv.put rfl)
theorem wipeE_len : ∀ t : List Nat, (wipeE env t).length = env.length
  | [] => rfl
  | i :: is => by unfold wipeE; rw [List.length_set, wipeE_len is]
theorem wipe_in {i : Nat} : ∀ {t : List Nat}, i ∈ t → i < σ.length → (L2.wipe σ t)[i]? = some none
  | [], h, _ => absurd h (by simp)
  | j :: js, h, hl => by
    unfold L2.wipe
    by_cases e : j = i
    · subst e
      exact List.getElem?_set_self (by rw [wipe_length]; exact hl)
    · rw [List.getElem?_set_ne e]
      rcases List.mem_cons.mp h with z | z
      · exact absurd z.symm e
      · exact wipe_in z hl
theorem wipeE_out {i : Nat} : ∀ {t : List Nat}, i ∉ t → (wipeE env t)[i]? = env[i]?
  | [], _ => rfl
  | j :: js, h => by
    unfold wipeE
    simp only [List.mem_cons, not_or] at h
    rw [List.getElem?_set_ne (Ne.symm h.1)]
    exact wipeE_out h.2
theorem backE_len : ∀ t : List Nat, (backE e1 env t).length = env.length
  | [] => rfl
  | i :: is => by unfold backE; rw [List.length_set, backE_len is]
theorem backE_out {i : Nat} : ∀ {t : List Nat}, i ∉ t → (backE e1 env t)[i]? = env[i]?
  | [], _ => rfl
  | j :: js, h => by
    unfold backE
    simp only [List.mem_cons, not_or] at h
    rw [List.getElem?_set_ne (Ne.symm h.1)]
    exact backE_out h.2
theorem backE_in {i : Nat} (hl : i < env.length) : ∀ {t : List Nat}, i ∈ t → (backE e1 env t)[i]? = some (e1[i]?.getD .no)
  | [], h => absurd h (by simp)
  | j :: js, h => by
    unfold backE
    by_cases e : j = i
    · subst e
      exact List.getElem?_set_self (by rw [backE_len]; exact hl)
    · rw [List.getElem?_set_ne e]
      rcases List.mem_cons.mp h with z | z
      · exact absurd z.symm e
      · exact backE_in hl z
theorem wipe_eq_out {i : Nat} {t : List Nat} (h : L2.wipe σ t = L2.wipe σ' t) (n : i ∉ t) : σ[i]? = σ'[i]? := by
  have q := congrArg (fun l : L2.St => l[i]?) h
  simp only [wipe_out n] at q
  exact q

/-! ### targets -/
def gsOf : List Nat → TGs
  | [] => gNil
  | i :: is => gCons (gName i) (gsOf is)
def gOf (K : PySem.W.Frag) (t : List Nat) : TG :=
  match t with
  | [i] => gName i
  | is => gTup K is.length (gsOf is)
theorem loc_of {X : Cx} {sc : Scope} {cl : Bool} {x : Str} (hsc : X.env.scope = sc) (hf : cl = true → ∀ x, X.fn x = true) (h : locB sc cl x = true) : Loc X.env.scope x ∧ (X.fn x = true ∨ X.env.scope.names.lookup x = some .local) := by
  subst hsc
  unfold locB at h
  split at h
  · exact ⟨.inl (by assumption), .inr (by assumption)⟩
  · exact ⟨.inr (by assumption), .inl (hf h x)⟩
  · cases h
theorem pgs_of {X : Cx} {S : CK} {sc : Scope} {cl : Bool} (hN : X.N = S.N) (hsc : X.env.scope = sc) (nd : S.N.Nodup) (hf : cl = true → ∀ x, X.fn x = true) : ∀ {t : List Nat} {es : List Expr}, tgsB S sc cl t es = true → PGs X es (gsOf t) ∧ es.length = t.length ∧ ∀ e ∈ es, noStar e = true
  | [], es, h => by
    cases es with
    | nil => exact ⟨pgs_nil, rfl, fun e z => absurd z (by simp)⟩
    | cons e es => cases h
  | i :: is, es, h => by
    cases es with
    | nil => cases h
    | cons e es =>
      simp only [tgsB, Bool.and_eq_true] at h
      obtain ⟨h1, h2⟩ := h
      unfold tg1B at h1
      split at h1
      · rename_i x pos
        simp only [Bool.and_eq_true, decide_eq_true_eq] at h1
        obtain ⟨hg, hl, hs⟩ := pgs_of hN hsc nd hf h2
        refine ⟨pgs_cons (pg_name (by rw [hN]; exact nd) (by rw [hN]; exact h1.1) (loc_of hsc hf h1.2).1 (loc_of hsc hf h1.2).2) hg rfl, by simp [hl], fun e z => ?_⟩
        rcases List.mem_cons.mp z with z | z
        · rw [z]; rfl
        · exact hs e z
      · cases h1
theorem gs_ok : ∀ {t : List Nat} (F : Frm) (σ : L2.St) (H : Hp) (env env' : Env) (vs : List V) (ds : List D) (Q : L2.St → Hp → Prop), EnvOk F σ H env → Rps F.P H (Av F σ env) vs ds → putT env t ds = some env' →
      (∀ σ', EnvOk F σ' H env' → Adv σ env H σ' env' H → L2.wipe σ' t = L2.wipe σ t → Q σ' H) → gsOf t vs σ H Q
  | [], F, σ, H, env, env', vs, ds, Q, E, r, k, q => by
    cases ds with
    | nil =>
      cases k
      exact ⟨r, q σ E Adv.refl rfl⟩
    | cons d ds => cases k
  | i :: is, F, σ, H, env, env', vs, ds, Q, E, r, k, q => by
    cases ds with
    | nil => cases k
    | cons d ds =>
      obtain ⟨v, rr, rfl, rv, rs⟩ := r
      simp only [putT] at k
      split at k
      · rename_i hi
        have A : Adv σ env H (σ.set i (some v)) (env.set i (.im d)) H := Adv.put rfl
        have E' : EnvOk F (σ.set i (some v)) H (env.set i (.im d)) := E.put rfl fun d' e => by
          cases e
          exact ⟨v, rfl, E.stay A rv⟩
        refine ⟨v, rr, rfl, gs_ok F _ H _ env' rr ds Q E' (E.stays A rs) k fun σ' E2 A2 w2 => q σ' E2 (A.trans A2) ?_⟩
        have w3 : L2.wipe (σ.set i (some v)) (i :: is) = L2.wipe σ (i :: is) := by
          unfold L2.wipe
          apply List.ext_getElem?
          intro j
          by_cases e : i = j
          · subst e
            by_cases hl : i < σ.length
            · rw [List.getElem?_set_self (by rw [wipe_length, List.length_set]; exact hl), List.getElem?_set_self (by rw [wipe_length]; exact hl)]
            · rw [List.getElem?_eq_none (by rw [List.length_set, wipe_length, List.length_set]; omega), List.getElem?_eq_none (by rw [List.length_set, wipe_length]; omega)]
          · rw [List.getElem?_set_ne e, List.getElem?_set_ne e]
            by_cases m : j ∈ is
            · by_cases hl : j < σ.length
              · rw [wipe_in m (by rw [List.length_set]; exact hl), wipe_in m hl]
              · rw [List.getElem?_eq_none (by rw [wipe_length, List.length_set]; omega), List.getElem?_eq_none (by rw [wipe_length]; omega)]
            · rw [wipe_out m, wipe_out m, List.getElem?_set_ne e]
        rw [← w3]
        unfold L2.wipe
        rw [w2]
      · cases k
theorem tg_len {X : Cx} : ∀ {es : List Expr}, (∀ e ∈ es, noStar e = true) → (assignEach es X.env).length = es.length ∧ (assignEach es X.env).findIdx? (·.1) = none
  | [], _ => ⟨rfl, rfl⟩
  | e :: es, h => by
    obtain ⟨h1, h2⟩ := tg_len (X := X) (es := es) fun x hx => h x (List.mem_cons_of_mem _ hx)
    have he := h e List.mem_cons_self
    cases e with
    | Starred _ _ => cases he
    | _ =>
      refine ⟨by simp [assignEach, h1], ?_⟩
      simp [assignEach, List.findIdx?_cons, h2]
theorem putT_len : ∀ {t : List Nat} {ds : List D} {env env' : Env}, putT env t ds = some env' → ds.length = t.length
  | [], ds, env, env', h => by
    cases ds with
    | nil => rfl
    | cons _ _ => cases h
  | i :: is, ds, env, env', h => by
    cases ds with
    | nil => cases h
    | cons d ds =>
      simp only [putT] at h
      split at h
      · simp [putT_len h]
      · cases h
theorem gOf_many {K : PySem.W.Frag} {t : List Nat} (h : ∀ i, t = [i] → False) : gOf K t = gTup K t.length (gsOf t) := by
  unfold gOf
  split
  · exact (h _ rfl).elim
  · rfl
theorem pg_of {X : Cx} {S : CK} {sc : Scope} {cl : Bool} (hc : X.calm = true) (hN : X.N = S.N) (hsc : X.env.scope = sc) (nd : S.N.Nodup) (hf : cl = true → ∀ x, X.fn x = true) {t : List Nat} {e : Expr} (h : tgB S sc cl t e = true) : PG X e (gOf X.K t) := by
  unfold tgB at h
  split at h
  · rename_i i
    unfold tg1B at h
    split at h
    · rename_i x pos
      simp only [Bool.and_eq_true, decide_eq_true_eq] at h
      exact pg_name (by rw [hN]; exact nd) (by rw [hN]; exact h.1) (loc_of hsc hf h.2).1 (loc_of hsc hf h.2).2
    · cases h
  · rename_i is ht
    split at h
    · rename_i es k pos
      obtain ⟨hg, hl, hs⟩ := pgs_of hN hsc nd hf h
      obtain ⟨l1, l2⟩ := tg_len (X := X) hs
      rw [gOf_many ht, ← hl]
      exact pg_tup hc hg l1 l2
    · cases h
theorem g_ok {t : List Nat} (F : Frm) (σ : L2.St) (H : Hp) (env env' : Env) (v : V) (d : D) (Q : L2.St → Hp → Prop) (E : EnvOk F σ H env) (r : Rp F.P H (Av F σ env) v d) (k : bindT t d env = some env')
    (q : ∀ σ', EnvOk F σ' H env' → Adv σ env H σ' env' H → L2.wipe σ' t = L2.wipe σ t → Q σ' H) : gOf F.P.K t v σ H Q := by
  unfold bindT at k
  split at k
  · rename_i i
    split at k
    · cases k
      have A : Adv σ env H (σ.set i (some v)) (env.set i (.im d)) H := Adv.put rfl
      refine q _ (E.put rfl fun d' e => by
        cases e
        exact ⟨v, rfl, E.stay A r⟩) A ?_
      show (σ.set i (some v)).set i none = σ.set i none
      rw [List.set_set]
    · cases k
  · rename_i is ht
    split at k
    · rename_i ds
      obtain ⟨a, vs, rfl, z1, z2⟩ := r
      rw [gOf_many ht]
      exact ⟨a, vs, rfl, z1, by rw [z2.length, putT_len k], gs_ok F σ H env env' vs ds Q E z2 k q⟩
    · cases k

/-! ### the turns -/
section
variable {X : Cx} {P : Pg} {C : Orc} {G : List D} {W : WX} {F : Frm} {σ : L2.St} {H H' H1 : Hp} {env env' e1 : Env} {D0 : Addr} {Q : VK}
abbrev noW : WX := fun _ _ _ _ => False
/-- where a comprehension stands: the base (σ, e1, H1), the state, what is made -/
structure Turning (F : Frm) (t : List Nat) (D0 : Addr) (σ : L2.St) (e1 : Env) (H1 : Hp) (env : Env) (acc : List D) (H : Hp) : Prop where
  E : EnvOk (F.guard D0) (L2.wipe σ t) H (wipeE env t)
  A : Adv σ e1 H1 (L2.wipe σ t) (wipeE env t) H
  len : env.length = e1.length
  made : ∃ ws, H D0 = some (.lst ws) ∧ Rps F.P H (Av (F.guard D0) (L2.wipe σ t) (wipeE env t)) ws acc.reverse
theorem now_guard (E : EnvOk (F.guard D0) σ H env) (hM : ¬ F.M D0) : ¬ Ow σ env D0 := by
  rintro ⟨i, m, d, h1, h2⟩
  obtain ⟨a, vs, ds, _, z1, _, _, z4, z5⟩ := E.ow i m d h1
  rw [h2] at z1
  cases z1
  cases m with
  | false => exact (z4 rfl).2 (.inr rfl)
  | true => exact hM (z5 rfl)
/-- one turn -/
theorem turn_ok {g : TG} {tt : TT} {te : TE} {ef : Env → Out Pd} {cf : Env → Out Bool} {t : List Nat} {d : D} {ds acc : List D} {v : V} {O : Out (List D)} {Nx : Hp → Prop} (hP : F.P = P) (hM : ¬ F.M D0) (h0 : F.H0 D0 = none) (hD1 : H1 D0 = none)
    (hK : F.P.K = X.K)
    (hg : ∀ (F : Frm) (σ : L2.St) (H : Hp) (env env' : Env) (v : V) (d : D) (Q : L2.St → Hp → Prop), F.P.K = X.K → EnvOk F σ H env → Rp F.P H (Av F σ env) v d → bindT t d env = some env' →
      (∀ σ', EnvOk F σ' H env' → Adv σ env H σ' env' H → L2.wipe σ' t = L2.wipe σ t → Q σ' H) → g v σ H Q)
    (htt : ∀ (F : Frm) (σ : L2.St) (H : Hp) (env e' : Env) (Q : Bool → Hp → Prop) (k : Bool), F.P = P → EnvOk F σ H env → cf env = .ok k e' → (∀ H', EnvOk F σ H' e' → Adv σ env H σ e' H' → Q k H') → tt σ H Q)
    (hte : ∀ (F : Frm) (σ : L2.St) (H : Hp) (env e' : Env) (Q : VK) (d : D), F.P = P → EnvOk F σ H env → ef env = .ok (.val d) e' → (∀ v H', EnvOk F σ H' e' → Adv σ env H σ e' H' → Rp F.P H' (Av F σ e') v d → Q v H') → te σ H Q)
    (T : Turning F t D0 σ e1 H1 env acc H) (rv : Rp F.P H (Av (F.guard D0) (L2.wipe σ t) (wipeE env t)) v d)
    (hO : lcL ef cf t (fun e => wipeE e t) (d :: ds) env acc = O) (hb : O ≠ .bad) (hz : acc.length < sizeLine)
    (hN : ∀ env' acc' H', Turning F t D0 σ e1 H1 env' acc' H' → acc'.length ≤ acc.length + 1 → lcL ef cf t (fun e => wipeE e t) ds env' acc' = O → Nx H') :
    g v (L2.wipe σ t) H fun σ2 H2 => L2.wipe σ2 t = L2.wipe σ t ∧ tt σ2 H2 fun b H3 =>
      if b = true then te σ2 H3 fun y H4 => ∃ acc, H4 D0 = some (.lst acc) ∧ acc.length < sizeLine ∧ Nx (upd H4 D0 (.lst (acc ++ [y]))) else Nx H3 := by
  have ww : ∀ τ : L2.St, L2.wipe (L2.wipe τ t) t = L2.wipe τ t := fun τ => by
    apply List.ext_getElem?
    intro j
    by_cases m : j ∈ t
    · by_cases hl : j < τ.length
      · rw [wipe_in m (by rw [wipe_length]; exact hl), wipe_in m hl]
      · rw [List.getElem?_eq_none (by rw [wipe_length, wipe_length]; omega), List.getElem?_eq_none (by rw [wipe_length]; omega)]
    · rw [wipe_out m]
  unfold lcL at hO
  split at hO
  · exact absurd hO.symm hb
  rename_i e2 hbt
  refine hg (F.guard D0) _ H _ e2 v d _ hK T.E rv hbt fun σ2 E2 A2 w2 => ?_
  rw [ww] at w2
  refine ⟨w2, ?_⟩
  have len2 : σ2.length = σ.length := by
    have q := congrArg List.length w2
    rw [wipe_length, wipe_length] at q
    exact q
  have lenσ : σ.length = e1.length := by
    have q := T.E.len
    rw [wipe_length, wipeE_len, T.len] at q
    exact q.symm
  -- back at a turn's end, the state (σ2, e, H')
  have back : ∀ {e : Env} {H' : Hp}, EnvOk (F.guard D0) σ2 H' e → Adv σ2 e2 H σ2 e H' → EnvOk (F.guard D0) (L2.wipe σ t) H' (wipeE e t) ∧ Adv σ e1 H1 (L2.wipe σ t) (wipeE e t) H' ∧ Adv (L2.wipe σ t) (wipeE env t) H (L2.wipe σ t) (wipeE e t) H' ∧ e.length = e1.length ∧ Adv σ2 e H' (L2.wipe σ t) (wipeE e t) H' := fun {e H'} E' A' => by
    have q1 := E'.wipe t
    rw [w2] at q1
    have q2 : Adv σ2 e H' (L2.wipe σ2 t) (wipeE e t) H' := Adv.wipe t
    rw [w2] at q2
    exact ⟨q1, ((T.A.trans A2).trans A').trans q2, (A2.trans A').trans q2, by rw [E'.len, len2, lenσ], q2⟩
  obtain ⟨ws, m1, m2⟩ := T.made
  have mD : ∀ {e : Env} {H' : Hp}, Adv (L2.wipe σ t) (wipeE env t) H (L2.wipe σ t) (wipeE e t) H' → H' D0 = some (.lst ws) ∧ Rps F.P H' (Av (F.guard D0) (L2.wipe σ t) (wipeE e t)) ws acc.reverse := fun {e H'} A => ⟨A.st _ _ m1 (now_guard T.E hM), T.E.stays A m2⟩
  cases hc : cf e2 with
  | exc x e => rw [hc] at hO; exact absurd hO.symm hb
  | bad => rw [hc] at hO; exact absurd hO.symm hb
  | ok k e3 =>
    rw [hc] at hO
    refine htt (F.guard D0) σ2 H e2 e3 _ k hP E2 hc fun H3 E3 A3 => ?_
    cases k with
    | false =>
      refine iteF ?_
      obtain ⟨q1, q2, q3, q4, _⟩ := back E3 A3
      obtain ⟨z1, z2⟩ := mD q3
      exact hN e3 acc H3 ⟨q1, q2, q4, ws, z1, z2⟩ (Nat.le_succ _) hO
    | true =>
      refine iteT ?_
      have hO : ((ef e3).nox.val fun y e3 => lcL ef cf t (fun e => wipeE e t) ds e3 (y :: acc)) = O := hO
      cases he : ef e3 with
      | exc x e => rw [he] at hO; exact absurd hO.symm hb
      | bad => rw [he] at hO; exact absurd hO.symm hb
      | ok p e4 =>
        rw [he] at hO
        cases p with
        | pk i => exact absurd hO.symm hb
        | val y =>
          refine hte (F.guard D0) σ2 H3 e3 e4 _ y hP E3 he fun u H4 E4 A4 ru => ?_
          obtain ⟨q1, q2, q3, q4, q5⟩ := back E4 (A3.trans A4)
          obtain ⟨z1, z2⟩ := mD q3
          have hl := z2.length
          refine ⟨ws, z1, by rw [hl, List.length_reverse]; exact hz, hN e4 (y :: acc) _ ⟨q1.poke z1 h0 hM, q2.poke hD1, q4, ws ++ [u], upd_same, ?_⟩ (Nat.le_refl _) hO⟩
          rw [List.reverse_cons]
          refine (rps_poke z1 (.inl (.inr rfl)) z2).app ⟨u, [], rfl, rp_poke z1 (.inl (.inr rfl)) ?_, rfl⟩
          exact E4.stay q5 ru
/-- a list that nothing else reaches -/
def Fresh (F : Frm) (σ : L2.St) (H : Hp) (env : Env) (a : Addr) (vs : List V) (ds : List D) : Prop :=
  H a = some (.lst vs) ∧ F.H0 a = none ∧ ¬ Av F σ env a ∧ EnvOk (F.guard a) σ H env ∧ Rps F.P H (Av (F.guard a) σ env) vs ds
theorem EnvOk.unguard {a : Addr} (E : EnvOk (F.guard a) σ H env) : EnvOk F σ H env where
  len := E.len
  im := fun i d h => by
    obtain ⟨v, h1, h2⟩ := E.im i d h
    exact ⟨v, h1, Rp.imp (fun _ _ q => q) (fun b _ n q => ⟨fun w => n (by
      rcases w with w | w
      · exact .inl (.inl w)
      · exact .inr w), q⟩) h2⟩
  ow := fun i m d h => by
    obtain ⟨b, vs, ds, h0, h1, h2, h3, h4, h5⟩ := E.ow i m d h
    exact ⟨b, vs, ds, h0, h1, h2, Rps.imp (fun _ _ q => q) (fun b _ n q => ⟨fun w => n (by
      rcases w with w | w
      · exact .inl (.inl w)
      · exact .inr w), q⟩) h3, fun z => ⟨(h4 z).1, fun w => (h4 z).2 (.inl w)⟩, h5⟩
  un := E.un
  z := fun b w => E.z b (.inl w)
  fr := E.fr
  mutd := E.mutd
theorem Fresh.rp {a : Addr} {vs : List V} {ds : List D} (h : Fresh F σ H env a vs ds) : Rp F.P H (Av F σ env) (.ref a) (.lst ds) := by
  obtain ⟨h1, _, h3, _, h5⟩ := h
  exact ⟨a, vs, rfl, h3, h1, Rps.imp (fun _ _ q => q) (fun b _ n q => ⟨fun w => n (by
      rcases w with w | w
      · exact .inl (.inl w)
      · exact .inr w), q⟩) h5⟩
theorem new_h0 (E : EnvOk F σ H env) {p : Addr} (hp : H p = none) : F.H0 p = none ∧ ¬ F.M p := by
  have hM : ¬ F.M p := fun m => by
    obtain ⟨xs, e⟩ := E.mutd p m
    rw [hp] at e
    cases e
  refine ⟨?_, hM⟩
  cases e : F.H0 p with
  | none => rfl
  | some o =>
    have q := E.fr p o e hM
    rw [hp] at q
    cases q
theorem fresh_new (E : EnvOk F σ H env) {p : Addr} {vs : List V} {ds : List D} (hp : H p = none) (r : Rps F.P H (Av F σ env) vs ds) : Fresh F σ (upd H p (.lst vs)) env p vs ds :=
  ⟨upd_same, (new_h0 E hp).1, E.new_nav hp, E.guard hp, rps_new hp av_guard r⟩
/-- behind the last turn -/
theorem turns_end {t : List Nat} {acc : List D} (E1 : EnvOk F σ H1 e1) (T : Turning F t D0 σ e1 H1 env acc H) (hM : ¬ F.M D0) (h0 : F.H0 D0 = none) (hD1 : H1 D0 = none) (ht : t.any (fun i => isOw (e1[i]?.getD .no)) = false) :
    Adv σ e1 H1 σ (backE e1 env t) H ∧ ∃ ws, Fresh F σ H (backE e1 env t) D0 ws acc.reverse := by
  have lenσ : σ.length = e1.length := E1.len.symm
  have no : ∀ {i : Nat} {m : Bool} {d : D}, (backE e1 env t)[i]? = some (.ow m d) → i ∉ t ∧ (wipeE env t)[i]? = some (.ow m d) := fun {i m d} h => by
    by_cases hi : i ∈ t
    · by_cases hl : i < env.length
      · rw [backE_in hl hi] at h
        have q := List.any_eq_false.mp ht i hi
        rw [Option.some.inj h] at q
        exact absurd rfl q
      · rw [List.getElem?_eq_none (by rw [backE_len]; omega)] at h
        cases h
    · rw [backE_out hi] at h
      exact ⟨hi, by rw [wipeE_out hi]; exact h⟩
  have sub : ∀ a, Ow σ (backE e1 env t) a → Ow (L2.wipe σ t) (wipeE env t) a := fun a ⟨i, m, d, h1, h2⟩ => by
    obtain ⟨hi, q⟩ := no h1
    exact ⟨i, m, d, q, by rw [wipe_out hi]; exact h2⟩
  have A : Adv σ e1 H1 σ (backE e1 env t) H := ⟨fun a h => T.A.ow a (sub a h), T.A.st, T.A.tr⟩
  have av : ∀ a, Av (F.guard D0) σ (backE e1 env t) a → Av (F.guard D0) (L2.wipe σ t) (wipeE env t) a := fun a w => by
    rcases w with w | w
    · exact .inl w
    · exact .inr (sub a w)
  have dn : ∀ {v : V} {d : D}, Rp F.P H (Av (F.guard D0) (L2.wipe σ t) (wipeE env t)) v d → Rp F.P H (Av (F.guard D0) σ (backE e1 env t)) v d := fun r => Rp.imp (fun _ _ q => q) (fun a _ n q => ⟨fun w => n (av a w), q⟩) r
  have dns : ∀ {v : List V} {d : List D}, Rps F.P H (Av (F.guard D0) (L2.wipe σ t) (wipeE env t)) v d → Rps F.P H (Av (F.guard D0) σ (backE e1 env t)) v d := fun r => Rps.imp (fun _ _ q => q) (fun a _ n q => ⟨fun w => n (av a w), q⟩) r
  obtain ⟨ws, m1, m2⟩ := T.made
  refine ⟨A, ws, m1, h0, fun w => ?_, ⟨by rw [backE_len, T.len, lenσ], fun i d h => ?_, fun i m d h => ?_, fun i j m n d e a q1 q2 q3 q4 => ?_, fun a w => T.E.z a w, T.E.fr, T.E.mutd⟩, dns m2⟩
  · rcases w with w | w
    · exact E1.z D0 w hD1
    · exact now_guard T.E hM (sub _ w)
  · by_cases hi : i ∈ t
    · have hl : i < env.length := by
        have q := (List.getElem?_eq_some_iff.mp h).1
        rw [backE_len] at q
        exact q
      rw [backE_in hl hi] at h
      have q : e1[i]? = some (.im d) := by
        cases z : e1[i]? with
        | none => rw [z] at h; cases h
        | some s => rw [z] at h; rw [← Option.some.inj h]; rfl
      obtain ⟨v, h1, h2⟩ := E1.im i d q
      refine ⟨v, h1, Rp.imp (fun a vs q => E1.tupStay A q) (fun a o n q => ?_) h2⟩
      obtain ⟨n', q'⟩ := E1.lstStay A n q
      refine ⟨fun w => ?_, q'⟩
      rcases av_guard a w with w | w
      · exact n' w
      · rw [w, hD1] at q; cases q
    · rw [backE_out hi] at h
      obtain ⟨v, h1, h2⟩ := T.E.im i d (by rw [wipeE_out hi]; exact h)
      exact ⟨v, by rw [wipe_out hi] at h1; exact h1, dn h2⟩
  · obtain ⟨hi, q⟩ := no h
    obtain ⟨a, vs, ds, h0, h1, h2, h3, h4⟩ := T.E.ow i m d q
    exact ⟨a, vs, ds, h0, by rw [wipe_out hi] at h1; exact h1, h2, dns h3, h4⟩
  · obtain ⟨hi, z1⟩ := no q1
    obtain ⟨hj, z3⟩ := no q3
    exact T.E.un i j m n d e a z1 (by rw [wipe_out hi]; exact q2) z3 (by rw [wipe_out hj]; exact q4)
/-- the first turn's state -/
theorem turns_start {t : List Nat} (E1 : EnvOk F σ H1 e1) (hD : H1 D0 = none) : Turning F t D0 σ e1 H1 e1 [] (upd H1 D0 (.lst [])) where
  E := (E1.guard hD).wipe t
  A := (Adv.wipe t).poke hD
  len := rfl
  made := ⟨[], upd_same, rfl⟩
end
end
end TT

set_option maxHeartbeats 4000000
namespace TT
open PySem L2 PySem.Spec PyProof.Rows
section
variable {X : Cx} {P : Pg} {C : Orc} {G : List D} {W : WX} {x : Expr} {a : IE}
/-- a list or a tuple is walked -/
def iAny (K : PySem.W.Frag) (tl : TE) : TI := fun σ H R => tl σ H fun x H1 => ∃ l, x = .ref l ∧ (((∃ xs, SqL K H1 l xs) ∧ R (Itl K l) H1) ∨ ((∃ xs, SqT K H1 l xs) ∧ R (Itt K l) H1))
theorem pi_any {tg l : Expr} {tl : TE} (hl : PE X l tl) : PI X tg l (iAny X.K tl) := by
  refine ⟨fun pins s σ H R I h => thn (hl.run pins s σ H _ I h) fun v s1 ⟨x, H1, I1, r1, q1⟩ => ?_⟩
  obtain ⟨b, e, q1⟩ := q1
  subst e
  cases r1
  have fo : ∀ c ∈ [s1.heap.objs.size], FpOk X pins H1 c := fun c hc => by
    rw [List.mem_singleton] at hc
    rw [hc]
    exact I1.fpOk (Nat.le_refl _) (I1.hok.fresh (Nat.le_refl _))
  rcases q1 with ⟨⟨xs, hq⟩, q⟩ | ⟨⟨xs, hq⟩, q⟩
  · obtain ⟨its, rv, p, hz⟩ := I1.list hq
    refine wpAny_pyIter_list p.isList ?_
    exact ⟨_, [s1.heap.objs.size], _, _, H1, rfl, I1.kept (t' := s1.toks) fun b o e => Heap.get?_push_of_some _ e, turn_list b _, ⟨_, Heap.get?_push_size _ rfl, rfl, rfl⟩, fo, q⟩
  · obtain ⟨its, rv, p, hz⟩ := I1.tuple hq
    refine wpAny_pyIter_tuple (show s1.heap.IsTuple b its.toArray from p) ?_
    exact ⟨_, [s1.heap.objs.size], _, _, H1, rfl, I1.kept (t' := s1.toks) fun b o e => Heap.get?_push_of_some _ e, turn_tuple b _, ⟨_, Heap.get?_push_size _ rfl, rfl, rfl⟩, fo, q⟩
end

/-- a result that is a list is reached by nothing else -/
def RFr (F : Frm) (σ : L2.St) (Hb : Hp) : Hp → Env → V → Pd → Prop := fun H e v p => match p with
  | .val (.lst ds) => ∃ a vs, v = .ref a ∧ Hb a = none ∧ Fresh F σ H e a vs ds
  | p => PdOk F σ H e v p
theorem RFr.pd {F : Frm} {σ : L2.St} {Hb H : Hp} {e : Env} {v : V} {p : Pd} (h : RFr F σ Hb H e v p) : PdOk F σ H e v p := by
  cases p with
  | pk i => exact h
  | val d =>
    cases d with
    | lst ds =>
      obtain ⟨a, vs, rfl, _, q⟩ := h
      exact q.rp
    | _ => exact h
theorem Cont.fr {F : Frm} {σ : L2.St} {W : WX} {Hb H : Hp} {env : Env} {Q : VK} {m : Out Pd} (h : Cont F σ (RPd F σ) W H env Q m) : Cont F σ (RFr F σ Hb) W H env Q m := by
  cases m with
  | ok p e => exact fun v H' E A r => h v H' E A r.pd
  | exc x e => exact h
  | bad => exact h
/-- an expression whose list is new -/
def tIF (C : Orc) (G : List D) (P : Pg) (W : WX) (ir : IE) : TE := fun σ H Q => ∃ F env, F.P = P ∧ EnvOk F σ H env ∧ Cont F σ (RFr F σ H) W H env Q (ev C G ir env)
theorem tI_tIF {C : Orc} {G : List D} {P : Pg} {W : WX} {ir : IE} : ∀ σ H Q, tI C G P W ir σ H Q → tIF C G P W ir σ H Q := fun σ H Q ⟨F, env, hP, E, k⟩ => ⟨F, env, hP, E, k.fr⟩
theorem fin_resF {F : Frm} {σ : L2.St} {Hb H : Hp} {env : Env} {W : WX} {Q : VK} {d : D} (E : EnvOk F σ H env) (hb : ∀ p, H p = none → Hb p = none) (k : Cont F σ (RFr F σ Hb) W H env Q (.ok (.val d) env)) : ResOk F.P H (Av F σ env) Q d := by
  cases d with
  | lst ds => exact fun p vs hp r => k _ _ (E.grow hp) (Adv.grow hp) ⟨p, vs, rfl, hb p hp, fresh_new E hp r⟩
  | tup ds => exact ⟨fun p vs hp r => k _ _ (E.grow hp) (Adv.grow hp) (E.newTup hp r), fun v r => k v H E Adv.refl r⟩
  | _ => exact fun v r => k v H E Adv.refl r
section
variable {X : Cx} {P : Pg} {W : WX} {F : Frm} {σ : L2.St} {H1 : Hp} {e1 : Env} {Q : VK} {g : TG} {tt : TT} {te : TE} {ef : Env → Out Pd} {cf : Env → Out Bool} {t : List Nat} {ys : List D}
/-- the parts of a comprehension's turn -/
structure Parts (X : Cx) (P : Pg) (t : List Nat) (g : TG) (tt : TT) (te : TE) (ef : Env → Out Pd) (cf : Env → Out Bool) : Prop where
  hg : ∀ (F : Frm) (σ : L2.St) (H : Hp) (env env' : Env) (v : V) (d : D) (Q : L2.St → Hp → Prop), F.P.K = X.K → EnvOk F σ H env → Rp F.P H (Av F σ env) v d → bindT t d env = some env' →
      (∀ σ', EnvOk F σ' H env' → Adv σ env H σ' env' H → L2.wipe σ' t = L2.wipe σ t → Q σ' H) → g v σ H Q
  htt : ∀ (F : Frm) (σ : L2.St) (H : Hp) (env e' : Env) (Q : Bool → Hp → Prop) (k : Bool), F.P = P → EnvOk F σ H env → cf env = .ok k e' → (∀ H', EnvOk F σ H' e' → Adv σ env H σ e' H' → Q k H') → tt σ H Q
  hte : ∀ (F : Frm) (σ : L2.St) (H : Hp) (env e' : Env) (Q : VK) (d : D), F.P = P → EnvOk F σ H env → ef env = .ok (.val d) e' → (∀ v H', EnvOk F σ H' e' → Adv σ env H σ e' H' → Rp F.P H' (Av F σ e') v d → Q v H') → te σ H Q
/-- what is left of a comprehension behind its source -/
abbrev lcRest (ef : Env → Out Pd) (cf : Env → Out Bool) (t : List Nat) (ys : List D) (e1 : Env) : Out Pd :=
  if t.any (fun i => isOw (e1[i]?.getD .no)) || !decide (ys.length ≤ SL) then .bad else (lcL ef cf t (fun e => wipeE e t) ys e1 []).bind fun zs e2 => .ok (.val (.lst zs)) (backE e1 e2 t)
theorem lc_main (pp : Parts X P t g tt te ef cf) (hP : F.P = P) (hK : F.P.K = X.K) (E1 : EnvOk F σ H1 e1) {Hb : Hp} (hb : ∀ p, H1 p = none → Hb p = none) (k : Cont F σ (RFr F σ Hb) W H1 e1 Q (lcRest ef cf t ys e1)) {D0 : Addr} (hD : H1 D0 = none) :
    ∃ Pv : Nat → Hp → Prop, Pv 0 (upd H1 D0 (.lst [])) ∧
      (∀ i H, i ≤ ys.length → Pv i H → (∀ a vs, SqT F.P.K H1 a vs → SqT F.P.K H a vs) ∧ (∀ a o, ¬ Av F σ e1 a → H1 a = some o → H a = some o)) ∧
      (∀ i d v H, ys[i]? = some d → Pv i H → Rp F.P H1 (Av F σ e1) v d → g v (L2.wipe σ t) H fun σ2 H2 => L2.wipe σ2 t = L2.wipe σ t ∧ tt σ2 H2 fun b H3 =>
        if b = true then te σ2 H3 fun y H4 => ∃ acc, H4 D0 = some (.lst acc) ∧ acc.length < sizeLine ∧ Pv (i + 1) (upd H4 D0 (.lst (acc ++ [y]))) else Pv (i + 1) H3) ∧
      (∀ H, Pv ys.length H → Q (.ref D0) H) := by
  unfold lcRest at k
  split at k
  · exact (show False from k).elim
  rename_i hc
  simp only [Bool.not_eq_true, Bool.or_eq_false_iff, Bool.not_eq_false', decide_eq_true_eq] at hc
  obtain ⟨hc1, hc2⟩ := hc
  have hM : ¬ F.M D0 := fun m => by
    obtain ⟨xs, e⟩ := E1.mutd D0 m
    rw [hD] at e
    cases e
  have h0 : F.H0 D0 = none := by
    cases e : F.H0 D0 with
    | none => rfl
    | some o =>
      have q := E1.fr D0 o e hM
      rw [hD] at q
      cases q
  refine ⟨fun i H => ∃ env acc, Turning F t D0 σ e1 H1 env acc H ∧ acc.length ≤ i ∧ lcL ef cf t (fun e => wipeE e t) (ys.drop i) env acc = lcL ef cf t (fun e => wipeE e t) ys e1 [], ⟨e1, [], turns_start E1 hD, Nat.zero_le _, rfl⟩, ?_, ?_, ?_⟩
  · rintro i H hi ⟨env, acc, T, _, _⟩
    exact ⟨fun a vs q => E1.tupStay T.A q, fun a o n q => (E1.lstStay T.A n q).2⟩
  · rintro i d v H hd ⟨env, acc, T, hl, hO⟩ rv
    have hi : i < ys.length := (List.getElem?_eq_some_iff.mp hd).1
    have e : ys.drop i = d :: ys.drop (i + 1) := by
      rw [List.drop_eq_getElem_cons hi]
      congr 1
      rw [List.getElem?_eq_getElem hi] at hd
      exact Option.some.inj hd
    rw [e] at hO
    have hbd : lcL ef cf t (fun e => wipeE e t) ys e1 [] ≠ .bad := fun z => by
      rw [z] at k
      exact (show False from k).elim
    have hs : (sizeLine : Nat) = 16777216 := sizeLine_eq
    refine turn_ok hP hM h0 hD hK pp.hg pp.htt pp.hte T ?_ hO hbd (by have : ys.length ≤ 16777216 := hc2; omega) fun env' acc' H' T' hl' hO' => ⟨env', acc', T', by omega, hO'⟩
    refine Rp.imp (fun a vs q => E1.tupStay T.A q) (fun a o n q => ?_) rv
    obtain ⟨n', q'⟩ := E1.lstStay T.A n q
    refine ⟨fun w => ?_, q'⟩
    rcases av_guard a w with w | w
    · exact n' w
    · rw [w, hD] at q; cases q
  · rintro H ⟨env, acc, T, _, hO⟩
    rw [List.drop_length] at hO
    rw [← hO] at k
    have k : Cont F σ (RFr F σ Hb) W H1 e1 Q (.ok (.val (.lst acc.reverse)) (backE e1 env t)) := k
    obtain ⟨q1, ws, q2⟩ := turns_end E1 T hM h0 hD hc1
    exact k _ H q2.2.2.2.1.unguard q1 ⟨D0, ws, rfl, hb D0 hD, q2⟩
/-- a comprehension over a list or a tuple -/
theorem lc_seq {G : List D} {C : Orc} {a : IE} {elt c : IE} (pp : Parts X P t g tt te (fun e => ev C G elt e) cf) (hcf : cf = fun e => match c with | .nop => .ok true e | _ => (ev C G c e).bind tst) (hK : X.K = P.K) (na : ∀ z, a ≠ .star z) :
    ∀ σ H Q, tIF C G P W (.lc elt t .seq [a] c) σ H Q → tLc (iAny X.K (tI C G P W a)) g tt te t σ H Q := by
  intro σ H Q ⟨F, env, hP, E, k⟩
  have k : Cont F σ (RFr F σ H) W H env Q ((evL C G [a] env).bind fun ds e1 => match items .seq ds with
    | none => .bad
    | some ys => lcRest (fun e => ev C G elt e) cf t ys e1) := by
    subst hcf
    exact k
  rw [evL_cons na, Out.assocV] at k
  refine ⟨F, env, hP, E, (Cont.val k).mono fun v H1 ⟨d, e1, E1, A1, r1, c1⟩ => ?_⟩
  have c1 : Cont F σ (RFr F σ H) W H1 e1 Q (match items .seq [d] with
    | none => .bad
    | some ys => lcRest (fun e => ev C G elt e) cf t ys e1) := c1
  have hK' : F.P.K = X.K := by rw [hP, hK]
  cases d with
  | lst ds =>
    obtain ⟨l, vs, rfl, n1, q1, q2⟩ := r1
    refine ⟨l, rfl, .inl ⟨⟨vs, .inl (.inl q1)⟩, fun D0 hD => ?_⟩⟩
    obtain ⟨Pv, p0, pl, ps, pe⟩ := lc_main pp hP hK' E1 A1.nones c1 hD
    have el : vs.length = ds.length := q2.length
    refine lc_list (K := X.K) (a := l) (xs := vs) Pv p0 (fun i H hi p => .inl (.inl ((pl i H (by omega) p).2 l _ n1 q1))) (fun i v H hv p => ?_) (fun H p => pe H (by rw [← el]; exact p))
    have hi := (List.getElem?_eq_some_iff.mp hv).1
    obtain ⟨w, hw, rw_⟩ := q2.get (i := i) (d := ds[i]'(by omega)) (List.getElem?_eq_getElem (by omega))
    rw [hv] at hw
    cases hw
    exact ps i _ v H (List.getElem?_eq_getElem (by omega)) p rw_
  | tup ds =>
    obtain ⟨l, vs, rfl, q1, q2⟩ := r1
    refine ⟨l, rfl, .inr ⟨⟨vs, by rw [← hK']; exact q1⟩, fun D0 hD => ?_⟩⟩
    obtain ⟨Pv, p0, pl, ps, pe⟩ := lc_main pp hP hK' E1 A1.nones c1 hD
    have el : vs.length = ds.length := q2.length
    refine lc_tup (K := X.K) (a := l) (xs := vs) Pv p0 (fun i H hi p => by rw [← hK']; exact (pl i H (by omega) p).1 l _ q1) (fun i v H hv p => ?_) (fun H p => pe H (by rw [← el]; exact p))
    have hi := (List.getElem?_eq_some_iff.mp hv).1
    obtain ⟨w, hw, rw_⟩ := q2.get (i := i) (d := ds[i]'(by omega)) (List.getElem?_eq_getElem (by omega))
    rw [hv] at hw
    cases hw
    exact ps i _ v H (List.getElem?_eq_getElem (by omega)) p rw_
  | scr ns =>
    obtain ⟨l, rfl, q1⟩ := r1
    have st : ∀ H', (∀ a o, ¬ Av F σ e1 a → H1 a = some o → H' a = some o) → SqL X.K H' l (ns.map V.int) := fun H' h => by
      rcases q1 with ⟨n, q1⟩ | q1
      · rcases q1 with q1 | ⟨o, q1⟩
        · exact .inl (.inl (h _ _ n q1))
        · exact .inl (.inr ⟨o, h _ _ n q1⟩)
      · rw [← hK']; exact q1 H'
    refine ⟨l, rfl, .inl ⟨⟨_, st H1 fun _ _ _ h => h⟩, fun D0 hD => ?_⟩⟩
    obtain ⟨Pv, p0, pl, ps, pe⟩ := lc_main pp hP hK' E1 A1.nones c1 hD
    have el : (ns.map V.int).length = (ns.map D.int).length := by simp
    refine lc_list (K := X.K) (a := l) (xs := ns.map V.int) Pv p0 (fun i H hi p => st H (pl i H (by omega) p).2) (fun i v H hv p => ?_) (fun H p => pe H (by rw [← el]; exact p))
    rw [List.getElem?_map] at hv
    cases hn : ns[i]? with
    | none => rw [hn] at hv; cases hv
    | some z =>
      rw [hn] at hv
      cases hv
      exact ps i (.int z) _ H (by rw [List.getElem?_map, hn]; rfl) p rfl
  | _ => exact (show False from c1).elim
theorem upFrom_len : ∀ (n : Nat) (lo : Int), (upFrom lo n).length = n
  | 0, _ => rfl
  | n + 1, lo => by simp [upFrom, upFrom_len n]
theorem upFrom_get : ∀ (n : Nat) (lo : Int) (i : Nat), i < n → (upFrom lo n)[i]? = some (.int (lo + i))
  | 0, _, _, h => absurd h (Nat.not_lt_zero _)
  | n + 1, lo, 0, _ => by simp [upFrom]
  | n + 1, lo, i + 1, h => by
    have q := upFrom_get n (lo + 1) i (by omega)
    simp only [upFrom, List.getElem?_cons_succ]
    rw [q]
    congr 2
    omega
theorem items_rng1 {ds ys : List D} (h : items .rng1 ds = some ys) : ∃ n : Int, ds = [.int n] ∧ -(2 ^ 62) ≤ n ∧ n ≤ 16777216 ∧ ys = upFrom 0 n.toNat := by
  match ds, h with
  | [], h => cases h
  | [d], h =>
    cases d with
    | int n =>
      simp only [items] at h
      split at h
      · rename_i hz
        simp only [Bool.and_eq_true, decide_eq_true_eq] at hz
        cases h
        exact ⟨n, rfl, by omega, hz.2, rfl⟩
      · cases h
    | _ => cases h
  | a :: b :: c, h =>
    simp only [items] at h
    cases h
theorem items_rng2 {ds ys : List D} (h : items .rng2 ds = some ys) : ∃ i j : Int, ds = [.int i, .int j] ∧ (-(2 ^ 62) ≤ i ∧ i < 2 ^ 62 ∧ -(2 ^ 62) ≤ j ∧ j < 2 ^ 62) ∧ ys = upFrom i (j - i).toNat := by
  match ds, h with
  | [], h => cases h
  | [d], h =>
    simp only [items] at h
    cases h
  | [d, e], h =>
    cases d with
    | int i =>
      cases e with
      | int j =>
        simp only [items] at h
        split at h
        · rename_i hz
          simp only [Bool.and_eq_true, decide_eq_true_eq] at hz
          cases h
          exact ⟨_, _, rfl, by omega, rfl⟩
        · cases h
      | _ => cases h
    | _ => cases h
  | a :: b :: c :: r, h =>
    simp only [items] at h
    cases h
theorem lc_rng1 {G : List D} {C : Orc} {ss : List IE} {elt c : IE} (pp : Parts X P t g tt te (fun e => ev C G elt e) cf) (hcf : cf = fun e => match c with | .nop => .ok true e | _ => (ev C G c e).bind tst) (hK : X.K = P.K) :
    ∀ σ H Q, tIF C G P W (.lc elt t .rng1 ss c) σ H Q → tLc (iRng1 (tL C G P W ss)) g tt te t σ H Q := by
  intro σ H Q ⟨F, env, hP, E, k⟩
  have k : Cont F σ (RFr F σ H) W H env Q ((evL C G ss env).bind fun ds e1 => match items .rng1 ds with
    | none => .bad
    | some ys => lcRest (fun e => ev C G elt e) cf t ys e1) := by
    subst hcf
    exact k
  refine ⟨F, env, hP, E, (Cont.bind k).mono fun vs H1 ⟨ds, e1, E1, A1, r1, c1⟩ => ?_⟩
  have hK' : F.P.K = X.K := by rw [hP, hK]
  cases hi : items .rng1 ds with
  | none => rw [hi] at c1; exact (show False from c1).elim
  | some ys =>
    rw [hi] at c1
    obtain ⟨n, rfl, h1, h2, rfl⟩ := items_rng1 hi
    obtain ⟨v, r, rfl, rv, rfl⟩ := r1
    obtain rfl := (show v = V.int n from rv)
    refine ⟨n, rfl, h1, by omega, fun D0 hD => ?_⟩
    obtain ⟨Pv, p0, pl, ps, pe⟩ := lc_main pp hP hK' E1 A1.nones c1 hD
    exact lc_range (lo := 0) (n := n.toNat) Pv p0 (fun i H hlt p => ps i _ _ H (upFrom_get _ _ _ hlt) p rfl) fun H p => pe H (by rw [upFrom_len]; exact p)
theorem lc_rng2 {G : List D} {C : Orc} {ss : List IE} {elt c : IE} (pp : Parts X P t g tt te (fun e => ev C G elt e) cf) (hcf : cf = fun e => match c with | .nop => .ok true e | _ => (ev C G c e).bind tst) (hK : X.K = P.K) :
    ∀ σ H Q, tIF C G P W (.lc elt t .rng2 ss c) σ H Q → tLc (iRng2 (tL C G P W ss)) g tt te t σ H Q := by
  intro σ H Q ⟨F, env, hP, E, k⟩
  have k : Cont F σ (RFr F σ H) W H env Q ((evL C G ss env).bind fun ds e1 => match items .rng2 ds with
    | none => .bad
    | some ys => lcRest (fun e => ev C G elt e) cf t ys e1) := by
    subst hcf
    exact k
  refine ⟨F, env, hP, E, (Cont.bind k).mono fun vs H1 ⟨ds, e1, E1, A1, r1, c1⟩ => ?_⟩
  have hK' : F.P.K = X.K := by rw [hP, hK]
  cases hi : items .rng2 ds with
  | none => rw [hi] at c1; exact (show False from c1).elim
  | some ys =>
    rw [hi] at c1
    obtain ⟨i, j, rfl, hb, rfl⟩ := items_rng2 hi
    obtain ⟨v, r, rfl, rv, w, r', rfl, rw_, rfl⟩ := r1
    obtain rfl := (show v = V.int i from rv)
    obtain rfl := (show w = V.int j from rw_)
    refine ⟨i, j, rfl, hb, fun D0 hD => ?_⟩
    obtain ⟨Pv, p0, pl, ps, pe⟩ := lc_main pp hP hK' E1 A1.nones c1 hD
    exact lc_range (lo := i) (n := (j - i).toNat) Pv p0 (fun k H hlt p => ps k _ _ H (upFrom_get _ _ _ hlt) p rfl) fun H p => pe H (by rw [upFrom_len]; exact p)
end
end TT

set_option maxHeartbeats 4000000
namespace TT
open PySem L2 PySem.Spec PyProof.Rows

theorem takes_no {X : Cx} : Takes X noW := fun _ _ ⟨_, _, _, _, _, _, _, _, _, _, _, _, _, _, _, _, w⟩ => w.elim
theorem starEach_ns {x : Expr} {xs : List Expr} {env : PySem.Env} (h : noStar x = true) : starEach (x :: xs) env = (false, eval x env) :: starEach xs env := by
  cases x with
  | Starred _ _ => cases h
  | _ => rfl
theorem plain_args {env : PySem.Env} {pos : Pos} : ∀ {xs : List Expr}, xs.all noStar = true → (backTo pos (starEach xs env)).any (·.1) = false
  | [], _ => rfl
  | x :: xs, h => by
    simp only [List.all_cons, Bool.and_eq_true] at h
    rw [starEach_ns h.1]
    have q := plain_args (env := env) (pos := pos) h.2
    unfold backTo at q ⊢
    rw [List.map_cons, List.any_cons, q]
    rfl
theorem plainIx_of {y : Expr} (h : plainIxB y = true) : PlainIx y := by
  intro o i
  cases y with
  | Slice _ _ _ _ => cases h
  | _ => rfl
theorem folded_of {e : Expr} {env : PySem.Env} (h : noSet e = true) (x : Value) : foldedSetIterable e env x = pure x := by
  cases e with
  | Set _ _ _ => cases h
  | _ => rfl
theorem vis_of {sc : Scope} {x : Str} (h : visB sc x = true) : Vis sc x := by
  unfold visB at h
  split at h
  · exact .inl (by assumption)
  · exact .inr (.inl (by assumption))
  · exact .inr (.inr (by assumption))
  · cases h
theorem gl_of {X : Cx} {sc : Scope} {x : Str} (hsc : X.env.scope = sc) (h : glB sc x = true) : Gl X x := by
  subst hsc
  unfold glB at h
  split at h
  · assumption
  · cases h
theorem nodb_of {x : Str} (h : nodb x = true) : (x == ("__debug__" : Str)) = false ∧ (x == ("__classdict__" : Str)) = false := by
  unfold nodb at h
  simp only [Bool.and_eq_true, Bool.not_eq_true'] at h
  exact h
theorem nm_of {S : CK} {sc : Scope} {i : Nat} {x : Str} (h : nmB S sc i x = true) : S.N[i]? = some x ∧ Vis sc x ∧ (x == ("__debug__" : Str)) = false ∧ (x == ("__classdict__" : Str)) = false := by
  unfold nmB at h
  simp only [Bool.and_eq_true, decide_eq_true_eq] at h
  exact ⟨h.1.1, vis_of h.1.2, nodb_of h.2⟩
theorem cm_marks {o : Cm} (y : Expr) : behindInMarks (cmOf o) y = false := nomark y (by cases o <;> decide) (by cases o <;> decide)
theorem cm_last {o o' : Cm} {y z : Expr} : lastMarks [cmOf o, cmOf o'] [y, z] = false := cm_marks z
theorem range_of {sc : Scope} {it : Expr} {ys : List Expr} (h : isRange sc it = some ys) : ∃ p pos, it = .Call (.Name "range" p) ys [] pos ∧ glB sc "range" = true ∧ ys.all noStar = true := by
  unfold isRange at h
  split at h
  · split at h
    · rename_i hz
      cases h
      simp only [Bool.and_eq_true, decide_eq_true_eq] at hz
      obtain ⟨⟨rfl, h2⟩, h3⟩ := hz
      exact ⟨_, _, rfl, h2, h3⟩
    · cases h
  · cases h
section
variable {S : CK} {P : Pg} {n : Nat} {C : Orc} {G : List D}
theorem Good.blk {X : Cx} (g : Good S P n C G X) (s : Shared) (H : Hp) (scope : Scope) (cenv : PySem.Env) (fp : List Addr) : Good S P n C G (X.blk s H scope cenv fp) :=
  ⟨g.hN, g.nd, g.calm, g.hr, g.hK, g.fns, g.gcs, g.blt, g.gcd⟩
/-- what an IR that is checked is worth -/
def Snd (S : CK) (P : Pg) (n : Nat) (C : Orc) (G : List D) (ir : IE) : Prop := ∀ (e : Expr) (sc : Scope) (X : Cx) (W : WX), Good S P n C G X → X.env.scope = sc → Takes X W →
  (chk S sc false ir e = true → PE X e (tI C G P W ir)) ∧ (chk S sc true ir e = true → PT X e (tT C G P W ir))
def SndL (S : CK) (P : Pg) (n : Nat) (C : Orc) (G : List D) (es : List IE) : Prop := ∀ (xs : List Expr) (sc : Scope) (X : Cx) (W : WX), Good S P n C G X → X.env.scope = sc → Takes X W → chkL S sc es xs = true → PA X xs (tL C G P W es)
def SndA (S : CK) (P : Pg) (n : Nat) (C : Orc) (G : List D) (es : List IE) : Prop := ∀ (xs : List Expr) (sc : Scope) (X : Cx) (W : WX), Good S P n C G X → X.env.scope = sc → Takes X W → chkA S sc es xs = true → xs.all noStar = true → PA X xs (tA C G P W es)
/-- a node whose test is its value's truth -/
theorem snd_of {ir : IE} (h : ∀ (t : Bool) (e : Expr) (sc : Scope) (X : Cx) (W : WX), Good S P n C G X → X.env.scope = sc → Takes X W → chk S sc t ir e = true →
    PE X e (tI C G P W ir) ∧ (t = true → ∀ whole, isTrue e X.env whole = (do let v ← whole; standAt e.pos; holding [v] (truthy v)))) : Snd S P n C G ir := fun e sc X W g hs tk =>
  ⟨fun k => (h false e sc X W g hs tk k).1, fun k => pt_plain g.hK (h true e sc X W g hs tk k).1 ((h true e sc X W g hs tk k).2 rfl)⟩
theorem snd_var (i : Nat) : Snd S P n C G (.var i) := snd_of fun t e sc X W g hs tk k => by
  simp only [chk] at k
  split at k
  · obtain ⟨h1, h2, h3, h4⟩ := nm_of k
    exact ⟨n_var (by rw [g.hN]; exact h1) (by rw [hs]; exact h2) h3 h4, fun _ _ => rfl⟩
  · cases k
theorem snd_pk (i : Nat) : Snd S P n C G (.pk i) := snd_of fun t e sc X W g hs tk k => by
  simp only [chk] at k
  split at k
  · obtain ⟨h1, h2, h3, h4⟩ := nm_of k
    exact ⟨n_pk (by rw [g.hN]; exact h1) (by rw [hs]; exact h2) h3 h4, fun _ _ => rfl⟩
  · cases k
theorem snd_nop : Snd S P n C G .nop := snd_of fun t e sc X W g hs tk k => by cases k
theorem snd_non : Snd S P n C G .non := snd_of fun t e sc X W g hs tk k => by
  simp only [chk] at k
  split at k
  · exact ⟨n_const pe_non (fun _ => rfl) fun _ _ => rfl, fun _ _ => rfl⟩
  · cases k
theorem snd_bl (b : Bool) : Snd S P n C G (.bl b) := snd_of fun t e sc X W g hs tk k => by
  simp only [chk] at k
  split at k
  · rw [eq_of_beq k]
    exact ⟨n_const pe_bl (fun _ => rfl) fun _ _ => rfl, fun _ _ => rfl⟩
  · cases k
theorem snd_int (i : Int) : Snd S P n C G (.int i) := snd_of fun t e sc X W g hs tk k => by
  simp only [chk] at k
  split at k
  · rw [of_decide_eq_true k]
    exact ⟨n_const pe_int (fun _ => rfl) fun _ _ => rfl, fun _ _ => rfl⟩
  · cases k
theorem snd_str (x : Str) : Snd S P n C G (.str x) := snd_of fun t e sc X W g hs tk k => by
  simp only [chk] at k
  split at k
  · rw [of_decide_eq_true k]
    exact ⟨n_const pe_str (fun _ => rfl) fun _ _ => rfl, fun _ _ => rfl⟩
  · cases k
theorem snd_gc (j : Nat) : Snd S P n C G (.gc j) := snd_of fun t e sc X W g hs tk k => by
  simp only [chk] at k
  split at k
  · rename_i x p
    simp only [Bool.and_eq_true, decide_eq_true_eq] at k
    obtain ⟨⟨h1, h2⟩, h3⟩ := k
    refine ⟨?_, fun _ _ => rfl⟩
    cases q : G[j]? with
    | none =>
      refine ⟨fun pins s σ H Q I ⟨F, env, _, _, z⟩ => ?_⟩
      simp only [ev, q, pdv] at z
      exact (show False from z).elim
    | some d =>
      obtain ⟨v, u, hm, ru, _, hr⟩ := g.gcs j x d h1 q
      exact n_const (pe_glob (gl_of hs h2) hm ru (nodb_of h3).1) (fun env => by simp only [ev, q, pdv]) hr
  · cases k
theorem snd_op {o : Op} {a b : IE} (ha : Snd S P n C G a) (hb : Snd S P n C G b) : Snd S P n C G (.op o a b) := snd_of fun t e sc X W g hs tk k => by
  simp only [chk] at k
  split at k
  · simp only [Bool.and_eq_true, decide_eq_true_eq] at k
    obtain ⟨⟨rfl, h2⟩, h3⟩ := k
    exact ⟨n_op ((ha _ sc X W g hs tk).1 h2) ((hb _ sc X W g hs tk).1 h3), fun _ _ => rfl⟩
  · cases k
theorem snd_neg {a : IE} (ha : Snd S P n C G a) : Snd S P n C G (.neg a) := snd_of fun t e sc X W g hs tk k => by
  simp only [chk] at k
  split at k
  · simp only [Bool.and_eq_true, Bool.not_eq_true'] at k
    exact ⟨n_neg ((ha _ sc X W g hs tk).1 k.2), fun z => by rw [k.1] at z; cases z⟩
  · cases k
theorem hu64 {X : Cx} (g : Good S P n C G X) : X.A.units + 64 < cLine := g.hr.units
theorem snd_cmp {o : Cm} {a b : IE} (ha : Snd S P n C G a) (hb : Snd S P n C G b) : Snd S P n C G (.cmp o a b) := fun e sc X W g hs tk => by
  constructor <;> intro k <;> simp only [chk] at k <;> split at k
  · simp only [Bool.and_eq_true, decide_eq_true_eq] at k
    obtain ⟨⟨rfl, h2⟩, h3⟩ := k
    exact n_cmp g.hK (hu64 g) ((ha _ sc X W g hs tk).1 h2) ((hb _ sc X W g hs tk).1 h3) (cm_marks _)
  · cases k
  · simp only [Bool.and_eq_true, decide_eq_true_eq] at k
    obtain ⟨⟨rfl, h2⟩, h3⟩ := k
    exact p_cmp g.hK (hu64 g) ((ha _ sc X W g hs tk).1 h2) ((hb _ sc X W g hs tk).1 h3) (cm_marks _)
  · cases k
theorem snd_chn {o o' : Cm} {a b c : IE} (ha : Snd S P n C G a) (hb : Snd S P n C G b) (hc : Snd S P n C G c) : Snd S P n C G (.chn o o' a b c) := fun e sc X W g hs tk => by
  constructor <;> intro k <;> simp only [chk] at k <;> split at k
  · simp only [Bool.and_eq_true, decide_eq_true_eq] at k
    obtain ⟨⟨⟨⟨⟨⟨rfl, rfl⟩, _⟩, _⟩, h2⟩, h3⟩, h4⟩ := k
    exact n_chn g.hK (hu64 g) ((ha _ sc X W g hs tk).1 h2) ((hb _ sc X W g hs tk).1 h3) ((hc _ sc X W g hs tk).1 h4) cm_last
  · cases k
  · simp only [Bool.and_eq_true, decide_eq_true_eq] at k
    obtain ⟨⟨⟨⟨⟨⟨rfl, rfl⟩, _⟩, _⟩, h2⟩, h3⟩, h4⟩ := k
    exact p_chn g.hK (hu64 g) ((ha _ sc X W g hs tk).1 h2) ((hb _ sc X W g hs tk).1 h3) ((hc _ sc X W g hs tk).1 h4) cm_last
  · cases k
theorem snd_and {a b : IE} (ha : Snd S P n C G a) (hb : Snd S P n C G b) : Snd S P n C G (.and a b) := fun e sc X W g hs tk => by
  constructor <;> intro k <;> simp only [chk] at k <;> split at k
  · simp only [Bool.and_eq_true] at k
    exact n_and g.hK ((ha _ sc X W g hs tk).1 k.1) (pe_one ((hb _ sc X W g hs tk).1 k.2))
  · simp only [Bool.and_eq_true] at k
    exact n_and g.hK ((ha _ sc X W g hs tk).1 k.1) ((hb _ sc X W g hs tk).1 k.2)
  · cases k
  · simp only [Bool.and_eq_true] at k
    exact PW.pt (p_and ((ha _ sc X W g hs tk).2 k.1) (pw_and1 ((hb _ sc X W g hs tk).2 k.2)))
  · rename_i x y z r p
    simp only [Bool.and_eq_true] at k
    have q := (hb _ sc X W g hs tk).2 k.2
    refine PW.pt (p_and ((ha _ sc X W g hs tk).2 k.1) ⟨fun wh pins s σ H Q I w => ?_⟩)
    exact q.run pins s σ H Q I w
  · cases k
theorem snd_or {a b : IE} (ha : Snd S P n C G a) (hb : Snd S P n C G b) : Snd S P n C G (.or a b) := fun e sc X W g hs tk => by
  constructor <;> intro k <;> simp only [chk] at k <;> split at k
  · simp only [Bool.and_eq_true] at k
    exact n_or g.hK ((ha _ sc X W g hs tk).1 k.1) (pe_one ((hb _ sc X W g hs tk).1 k.2))
  · simp only [Bool.and_eq_true] at k
    exact n_or g.hK ((ha _ sc X W g hs tk).1 k.1) ((hb _ sc X W g hs tk).1 k.2)
  · cases k
  · simp only [Bool.and_eq_true] at k
    exact PW.pt (p_or ((ha _ sc X W g hs tk).2 k.1) (pw_or1 ((hb _ sc X W g hs tk).2 k.2)))
  · simp only [Bool.and_eq_true] at k
    have q := (hb _ sc X W g hs tk).2 k.2
    exact PW.pt (p_or ((ha _ sc X W g hs tk).2 k.1) ⟨fun wh pins s σ H Q I w => q.run pins s σ H Q I w⟩)
  · cases k
theorem snd_not {a : IE} (ha : Snd S P n C G a) : Snd S P n C G (.not a) := fun e sc X W g hs tk => by
  constructor <;> intro k <;> simp only [chk] at k <;> split at k
  · exact n_not g.hK ((ha _ sc X W g hs tk).1 k)
  · cases k
  · exact p_not ((ha _ sc X W g hs tk).2 k)
  · cases k
theorem snd_ite {u a b : IE} (hu : Snd S P n C G u) (ha : Snd S P n C G a) (hb : Snd S P n C G b) : Snd S P n C G (.ite u a b) := snd_of fun t e sc X W g hs tk k => by
  simp only [chk] at k
  split at k
  · simp only [Bool.and_eq_true, Bool.not_eq_true'] at k
    obtain ⟨⟨⟨h0, h1⟩, h2⟩, h3⟩ := k
    exact ⟨n_ite ((hu _ sc X W g hs tk).2 h1) ((ha _ sc X W g hs tk).1 h2) ((hb _ sc X W g hs tk).1 h3), fun z => by rw [h0] at z; cases z⟩
  · cases k
theorem snd_tup {es : List IE} (h : SndL S P n C G es) : Snd S P n C G (.tup es) := snd_of fun t e sc X W g hs tk k => by
  simp only [chk] at k
  split at k
  · exact ⟨n_tup (h _ sc X W g hs tk k), fun _ _ => rfl⟩
  · cases k
theorem snd_lst {es : List IE} (h : SndL S P n C G es) : Snd S P n C G (.lst es) := snd_of fun t e sc X W g hs tk k => by
  simp only [chk] at k
  split at k
  · exact ⟨n_lst (h _ sc X W g hs tk k), fun _ _ => rfl⟩
  · cases k
theorem snd_ix {a b : IE} (ha : Snd S P n C G a) (hb : Snd S P n C G b) : Snd S P n C G (.ix a b) := snd_of fun t e sc X W g hs tk k => by
  simp only [chk] at k
  split at k
  · simp only [Bool.and_eq_true] at k
    obtain ⟨⟨h1, h2⟩, h3⟩ := k
    exact ⟨n_ix g.hK ((ha _ sc X W g hs tk).1 h2) ((hb _ sc X W g hs tk).1 h3) (plainIx_of h1), fun _ _ => rfl⟩
  · cases k
theorem snd_call {f : Nat} {es : List IE} (h : SndA S P n C G es) : Snd S P n C G (.call f es) := snd_of fun t e sc X W g hs tk k => by
  simp only [chk] at k
  split at k
  · simp only [Bool.and_eq_true, decide_eq_true_eq] at k
    obtain ⟨⟨⟨⟨⟨h1, h2⟩, h3⟩, h4⟩, h5⟩, h6⟩ := k
    obtain ⟨f1, f2, f3⟩ := g.fns f _ _ h2 h1
    have h5' := h5
    simp only [List.all_cons, Bool.and_eq_true] at h5'
    exact ⟨n_call f3 g.hr (gl_of hs h3) f1 f2 tk (h _ sc X W g hs tk h6 h5) (nodb_of h4).1 (starEach_ns h5'.1) (plain_args h5'.2), fun _ _ => rfl⟩
  · cases k
theorem snd_calls {f : Nat} {es : List IE} (h : SndL S P n C G es) : Snd S P n C G (.calls f es) := snd_of fun t e sc X W g hs tk k => by
  simp only [chk] at k
  split at k
  · simp only [Bool.and_eq_true, decide_eq_true_eq] at k
    obtain ⟨⟨⟨⟨⟨h1, h2⟩, h3⟩, h4⟩, h5⟩, h6⟩ := k
    obtain ⟨f1, f2, f3⟩ := g.fns f _ _ h2 h1
    simp only [List.all_cons, Bool.and_eq_true] at h5
    exact ⟨n_calls f3 g.hr (gl_of hs h3) f1 f2 tk (h _ sc X W g hs tk h6) (nodb_of h4).1 (starEach_ns h5.1) (plain_args h5.2), fun _ _ => rfl⟩
  · cases k
theorem snd_mcall {f i : Nat} {es : List IE} (h : SndL S P n C G es) : Snd S P n C G (.mcall f i es) := snd_of fun t e sc X W g hs tk k => by
  simp only [chk] at k
  split at k
  · simp only [Bool.and_eq_true, decide_eq_true_eq] at k
    obtain ⟨⟨⟨⟨⟨⟨h1, h2⟩, h3⟩, h4⟩, h7⟩, h5⟩, h6⟩ := k
    obtain ⟨f1, f2, f3⟩ := g.fns f _ _ h2 h1
    obtain ⟨m1, m2, m3, m4⟩ := nm_of h7
    exact ⟨n_mcall f3 g.hr (gl_of hs h3) f1 f2 tk (by rw [g.hN]; exact m1) (by rw [hs]; exact m2) m3 m4 (h _ sc X W g hs tk h6) (nodb_of h4).1 (plain_args h5), fun _ _ => rfl⟩
  · cases k
theorem snd_bi {b : Bi} {es : List IE} (h : SndA S P n C G es) : Snd S P n C G (.bi b es) := snd_of fun t e sc X W g hs tk k => by
  simp only [chk] at k
  split at k
  · simp only [Bool.and_eq_true, decide_eq_true_eq] at k
    obtain ⟨⟨⟨⟨rfl, h3⟩, h4⟩, h5⟩, h6⟩ := k
    have pa := h _ sc X W g hs tk h6 h5
    simp only [List.all_cons, Bool.and_eq_true] at h5
    have s1 : ∀ xs : List Expr, _ := fun xs => starEach_ns (xs := xs) (env := X.env) h5.1
    have s2 := fun pos : Pos => plain_args (env := X.env) (pos := pos) h5.2
    have gl := gl_of hs h3
    refine ⟨?_, fun _ _ => rfl⟩
    cases b with
    | len => exact pe_of (pe_callB (bi_len g.hK) gl (g.blt "len" (by simp)) PySem.boot_len pa (by decide) (by decide) (s1 _) (s2 _)) (bi_end rfl)
    | int => exact pe_of (pe_callTy bi_int gl (g.blt "int" (by simp)) (by decide +kernel) pa (by decide) (by decide) (s1 _) (s2 _)) (bi_end rfl)
    | tuple => exact pe_of (pe_callTy (bi_tuple g.hK) gl (g.blt "tuple" (by simp)) (by decide +kernel) pa (by decide) (by decide) (s1 _) (s2 _)) (bi_end rfl)
    | list => exact pe_of (pe_callTy (bi_list g.hK) gl (g.blt "list" (by simp)) (by decide +kernel) pa (by decide) (by decide) (s1 _) (s2 _)) (bi_end rfl)
    | abs => exact pe_of (pe_callB bi_abs gl (g.blt "abs" (by simp)) (by decide +kernel) pa (by decide) (by decide) (s1 _) (s2 _)) (bi_end rfl)
    | max2 => exact pe_of (pe_callB (bi_max2 g.calm) gl (g.blt "max" (by simp)) (by decide +kernel) pa (by decide) (by decide) (s1 _) (s2 _)) (bi_end rfl)
    | min2 => exact pe_of (pe_callB (bi_min2 g.calm) gl (g.blt "min" (by simp)) (by decide +kernel) pa (by decide) (by decide) (s1 _) (s2 _)) (bi_end rfl)
    | gcd => exact pe_of (pe_callBfun bi_gcd gl g.gcd pa (by decide) (s1 _) (s2 _)) (bi_end rfl)
    | all => exact pe_of (pe_callB (bi_all g.calm) gl (g.blt "all" (by simp)) (by decide +kernel) pa (by decide) (by decide) (s1 _) (s2 _)) (bi_end rfl)
    | any => exact pe_of (pe_callB (bi_any g.calm) gl (g.blt "any" (by simp)) (by decide +kernel) pa (by decide) (by decide) (s1 _) (s2 _)) (bi_end rfl)
  · cases k
theorem ty_boot (t : Nat) : bootBuiltins (tyNmS t) = some (.type (tyNm t)) ∧ tyNmS t ≠ "__name__" ∧ (tyNmS t == ("__debug__" : Str)) = false ∧ tyNmS t ∈ (["len", "int", "tuple", "list", "abs", "max", "min", "all", "any", "isinstance", "bool", "str", "range"] : List Str) := by
  match t with
  | 0 => exact ⟨by decide +kernel, by decide, by decide, by simp [tyNmS]⟩
  | 1 => exact ⟨by decide +kernel, by decide, by decide, by simp [tyNmS]⟩
  | 2 => exact ⟨by decide +kernel, by decide, by decide, by simp [tyNmS]⟩
  | 3 => exact ⟨by decide +kernel, by decide, by decide, by simp [tyNmS]⟩
  | t + 4 => exact ⟨by show bootBuiltins "list" = some (.type "list"); decide +kernel, by show ("list" : Str) ≠ _; decide, by show (("list" : Str) == _) = false; decide, by show ("list" : Str) ∈ _; simp⟩
theorem snd_isi {t : Nat} {a : IE} (h : Snd S P n C G a) : Snd S P n C G (.isi t a) := snd_of fun tt e sc X W g hs tk k => by
  simp only [chk] at k
  split at k
  · simp only [Bool.and_eq_true, decide_eq_true_eq] at k
    obtain ⟨⟨⟨⟨⟨h1, h2⟩, h3⟩, rfl⟩, h5⟩, h6⟩ := k
    obtain ⟨b1, b2, b3, b4⟩ := ty_boot t
    exact ⟨n_isi g.hK (g.blt "isinstance" (by simp)) h1 (gl_of hs h2) (gl_of hs h5) (g.blt _ b4) b1 b2 b3 ((h _ sc X W g hs tk).1 h6) (starEach_ns h3), fun _ _ => rfl⟩
  · cases k

/-! ### comprehensions -/
theorem tt_of {X : Cx} {P : Pg} {C : Orc} {G : List D} {c : IE} : ∀ (F : Frm) (σ : L2.St) (H : Hp) (env e' : Env) (Q : Bool → Hp → Prop) (k : Bool), F.P = P → EnvOk F σ H env → (ev C G c env).bind tst = .ok k e' → (∀ H', EnvOk F σ H' e' → Adv σ env H σ e' H' → Q k H') → tT C G P noW c σ H Q :=
  fun F σ H env e' Q k hP E h q => ⟨F, env, hP, E, by
    unfold evT
    rw [h]
    exact fun b H' E' A' e => by
      obtain rfl := (show b = k from e)
      exact q H' E' A'⟩
theorem te_of {X : Cx} {P : Pg} {C : Orc} {G : List D} {c : IE} : ∀ (F : Frm) (σ : L2.St) (H : Hp) (env e' : Env) (Q : VK) (d : D), F.P = P → EnvOk F σ H env → ev C G c env = .ok (.val d) e' → (∀ v H', EnvOk F σ H' e' → Adv σ env H σ e' H' → Rp F.P H' (Av F σ e') v d → Q v H') → tI C G P noW c σ H Q :=
  fun F σ H env e' Q d hP E h q => ⟨F, env, hP, E, by
    rw [h]
    exact fun v H' E' A' r => q v H' E' A' r⟩
def condF (C : Orc) (G : List D) (c : IE) : Env → Out Bool := fun e => match c with
  | .nop => .ok true e
  | _ => (ev C G c e).bind tst
theorem condF_of {c : IE} (h : isNop c = false) : condF C G c = fun e => (ev C G c e).bind tst := by
  cases c with
  | nop => cases h
  | _ => rfl
theorem ownL_snd {t : List Nat} : (ownL S t).map (·.2) = t := by
  unfold ownL
  rw [List.map_map]
  exact List.map_id t
/-- what pe_lc and ps_setLc ask of a comprehension -/
structure LcP (X : Cx) (elt tg it : Expr) (ifs : List Expr) (scope : Scope) (own : List (Str × Nat)) (wi : TI) (g : TG) (tt : TT) (te : TE) : Prop where
  hi : PI X tg it wi
  ok : BlkOk X.N X.env.scope scope own
  hg : ∀ (s : Shared) (H : Hp) (A : Addr) (cl : List (Str × Addr)) (fp : List Addr), PG (X.blk s H scope (compEnvC scope cl A X.env) fp) tg g
  ht : ∀ (s : Shared) (H : Hp) (A : Addr) (cl : List (Str × Addr)) (fp : List Addr), PTs (X.blk s H scope (compEnvC scope cl A X.env) fp) ifs tt
  he : ∀ (s : Shared) (H : Hp) (A : Addr) (cl : List (Str × Addr)) (fp : List Addr), PE (X.blk s H scope (compEnvC scope cl A X.env) fp) elt te
  hs : ∀ x, foldedSetIterable it X.env x = pure x
theorem lc_parts {elt c : IE} {t : List Nat} {k : SK} {ss : List IE} (he : Snd S P n C G elt) (hc : Snd S P n C G c) (hss : SndL S P n C G ss) (hs1 : ∀ a, ss = [a] → Snd S P n C G a) {tt : Bool} {e : Expr} {sc : Scope} {X : Cx} {W : WX}
    (g : Good S P n C G X) (hs : X.env.scope = sc) (tk : Takes X W) (kk : chk S sc tt (.lc elt t k ss c) e = true) :
    ∃ x tg it ifs scope pos wi tq te, e = .ListComp x [⟨tg, it, ifs, 0⟩] scope pos ∧ LcP X x tg it ifs scope (ownL S t) wi (gOf X.K t) tq te ∧ ∀ σ H Q, tIF C G P W (.lc elt t k ss c) σ H Q → tLc wi (gOf X.K t) tq te ((ownL S t).map (·.2)) σ H Q := by
  unfold chk at kk
  split at kk
  · rename_i x tg it ifs scope pos
    simp only [Bool.and_eq_true] at kk
    obtain ⟨⟨⟨⟨⟨k1, k2⟩, k3⟩, k4⟩, k5⟩, k6⟩ := kk
    have ok : BlkOk X.N X.env.scope scope (ownL S t) := by
      rw [g.hN, hs]
      exact blkOk_by k1
    have nd : X.N.Nodup := by rw [g.hN]; exact g.nd
    have gb : ∀ (s : Shared) (H : Hp) (A : Addr) (cl : List (Str × Addr)) (fp : List Addr), Good S P n C G (X.blk s H scope (compEnvC scope cl A X.env) fp) := fun s H A cl fp => g.blk s H scope _ fp
    have sb : ∀ (s : Shared) (H : Hp) (A : Addr) (cl : List (Str × Addr)) (fp : List Addr), (X.blk s H scope (compEnvC scope cl A X.env) fp).env.scope = relS scope sc := fun s H A cl fp => by rw [← hs]; rfl
    have hgg : ∀ (s : Shared) (H : Hp) (A : Addr) (cl : List (Str × Addr)) (fp : List Addr), PG (X.blk s H scope (compEnvC scope cl A X.env) fp) tg (gOf X.K t) := fun s H A cl fp =>
      pg_of (X := X.blk s H scope (compEnvC scope cl A X.env) fp) g.calm g.hN (sb s H A cl fp) g.nd (fun z => by cases z) k2
    -- the test
    have pt0 : ∃ tq, (∀ (s : Shared) (H : Hp) (A : Addr) (cl : List (Str × Addr)) (fp : List Addr), PTs (X.blk s H scope (compEnvC scope cl A X.env) fp) ifs tq) ∧
        ∀ (F : Frm) (σ : L2.St) (H : Hp) (env e' : Env) (Q : Bool → Hp → Prop) (k : Bool), F.P = P → EnvOk F σ H env → condF C G c env = .ok k e' → (∀ H', EnvOk F σ H' e' → Adv σ env H σ e' H' → Q k H') → tq σ H Q := by
      cases hn : isNop c with
      | true =>
        obtain rfl : c = .nop := by
          cases c with
          | nop => rfl
          | _ => cases hn
        cases ifs with
        | nil =>
          refine ⟨tYes, fun _ _ _ _ _ => pts_nil, fun F σ H env e' Q k hP E h q => ?_⟩
          cases h
          exact q H E Adv.refl
        | cons y r => cases r <;> cases k5
      | false =>
        rw [condF_of hn]
        have k5' : ∃ y, ifs = [y] ∧ chk S (relS scope sc) true c y = true := by
          cases ifs with
          | nil => cases c with
            | nop => cases hn
            | _ => cases k5
          | cons y r =>
            cases r with
            | nil => exact ⟨y, rfl, by
              cases c with
              | nop => cases hn
              | _ => exact k5⟩
            | cons z r => cases c with
              | nop => cases hn
              | _ => cases k5
        obtain ⟨y, rfl, hy⟩ := k5'
        exact ⟨tT C G P noW c, fun s H A cl fp => pts_one ((hc y _ _ noW (gb s H A cl fp) (sb s H A cl fp) takes_no).2 hy), tt_of (X := X)⟩
    obtain ⟨tq, htq, htt⟩ := pt0
    have pe0 : ∀ (s : Shared) (H : Hp) (A : Addr) (cl : List (Str × Addr)) (fp : List Addr), PE (X.blk s H scope (compEnvC scope cl A X.env) fp) x (tI C G P noW elt) := fun s H A cl fp => (he x _ _ noW (gb s H A cl fp) (sb s H A cl fp) takes_no).1 k6
    have pp : Parts X P t (gOf X.K t) tq (tI C G P noW elt) (fun e => ev C G elt e) (condF C G c) := ⟨fun F σ H env env' v d Q hK E r k q => hK ▸ g_ok F σ H env env' v d Q E r k q, htt, te_of (X := X)⟩
    have fold := folded_of (env := X.env) k3
    cases k with
    | seq =>
      cases ss with
      | nil => cases k4
      | cons a r =>
        cases r with
        | cons _ _ => cases k4
        | nil =>
          have na : ∀ z, a ≠ .star z := fun z e => by rw [e] at k4; cases k4
          exact ⟨_, _, _, _, _, _, _, _, _, rfl, ⟨pi_any ((hs1 a rfl _ sc X W g hs tk).1 k4), ok, hgg, htq, pe0, fold⟩, by rw [ownL_snd]; exact lc_seq pp rfl g.hK na⟩
    | rng1 =>
      cases hr : isRange sc it with
      | none => rw [hr] at k4; cases k4
      | some ys =>
        rw [hr] at k4
        simp only [Bool.and_eq_true, beq_iff_eq] at k4
        obtain ⟨p, pos2, rfl, r2, r3⟩ := range_of hr
        match ys, k4 with
        | [y], k4 =>
          simp only [List.all_cons, Bool.and_eq_true] at r3
          exact ⟨_, _, _, _, _, _, _, _, _, rfl, ⟨pi_range1 (gl_of hs r2) (g.blt "range" (by simp)) (hss _ sc X W g hs tk k4.2) (starEach_ns r3.1), ok, hgg, htq, pe0, fold⟩, by rw [ownL_snd]; exact lc_rng1 pp rfl g.hK⟩
        | [], k4 => cases k4.1
        | _ :: _ :: _, k4 => cases k4.1
    | rng2 =>
      cases hr : isRange sc it with
      | none => rw [hr] at k4; cases k4
      | some ys =>
        rw [hr] at k4
        simp only [Bool.and_eq_true, beq_iff_eq] at k4
        obtain ⟨p, pos2, rfl, r2, r3⟩ := range_of hr
        match ys, k4 with
        | [y, z], k4 =>
          simp only [List.all_cons, Bool.and_eq_true] at r3
          exact ⟨_, _, _, _, _, _, _, _, _, rfl, ⟨pi_range2 (gl_of hs r2) (g.blt "range" (by simp)) (hss _ sc X W g hs tk k4.2) (by rw [starEach_ns r3.1, starEach_ns r3.2.1]; rfl) (by rw [starEach_ns r3.2.1]; rfl), ok, hgg, htq, pe0, fold⟩, by rw [ownL_snd]; exact lc_rng2 pp rfl g.hK⟩
        | [], k4 => cases k4.1
        | [_], k4 => cases k4.1
        | _ :: _ :: _ :: _, k4 => cases k4.1
  · cases kk
theorem lc_pe {elt c : IE} {t : List Nat} {k : SK} {ss : List IE} (he : Snd S P n C G elt) (hc : Snd S P n C G c) (hss : SndL S P n C G ss) (hs1 : ∀ a, ss = [a] → Snd S P n C G a) {tt : Bool} {e : Expr} {sc : Scope} {X : Cx} {W : WX}
    (g : Good S P n C G X) (hs : X.env.scope = sc) (tk : Takes X W) (kk : chk S sc tt (.lc elt t k ss c) e = true) : PE X e (tIF C G P W (.lc elt t k ss c)) := by
  obtain ⟨x, tg, it, ifs, scope, pos, wi, tq, te, rfl, L, q⟩ := lc_parts he hc hss hs1 g hs tk kk
  exact pe_of (pe_lc g.calm (by rw [g.hN]; exact g.nd) L.hi L.ok L.hg L.ht L.he (pos := pos) L.hs) q
theorem snd_lc {elt c : IE} {t : List Nat} {k : SK} {ss : List IE} (he : Snd S P n C G elt) (hc : Snd S P n C G c) (hss : SndL S P n C G ss) (hs1 : ∀ a, ss = [a] → Snd S P n C G a) : Snd S P n C G (.lc elt t k ss c) := snd_of fun tt e sc X W g hs tk kk =>
  ⟨pe_of (lc_pe he hc hss hs1 g hs tk kk) tI_tIF, fun _ => by
    obtain ⟨x, tg, it, ifs, scope, pos, wi, tq, te, rfl, L, q⟩ := lc_parts he hc hss hs1 g hs tk kk
    exact fun _ => rfl⟩
/-! ### a def that gives a new list; a def that changes a list made on the spot -/
theorem fcall_pe {f : Nat} {es : List IE} (h : SndL S P n C G es) {tt : Bool} {e : Expr} {sc : Scope} {X : Cx} {W : WX} (g : Good S P n C G X) (hs : X.env.scope = sc) (tk : Takes X W) (k : chk S sc tt (.fcall f es) e = true) :
    PE X e (tIF C G P W (.fcall f es)) ∧ ∀ whole, isTrue e X.env whole = (do let v ← whole; standAt e.pos; holding [v] (truthy v)) := by
  simp only [chk] at k
  split at k
  · simp only [Bool.and_eq_true, decide_eq_true_eq] at k
    obtain ⟨⟨⟨⟨⟨h1, h2⟩, h3⟩, h4⟩, h5⟩, h6⟩ := k
    obtain ⟨f1, f2, f3⟩ := g.fns f _ _ h2 h1
    simp only [List.all_cons, Bool.and_eq_true] at h5
    refine ⟨pe_of (pe_callF f3 g.hr (gl_of hs h3) f1 f2 tk (h _ sc X W g hs tk h6) (nodb_of h4).1 (starEach_ns h5.1) (plain_args h5.2)) fun σ H Q ⟨F, env, hP, E, k⟩ => ?_, fun _ => rfl⟩
    simp only [ev] at k
    refine ⟨F, env, hP, E, (Cont.bind k).mono fun vs H1 ⟨ds, e1, E1, A1, r1, c1⟩ => ?_⟩
    subst hP
    refine ⟨ds, Av F σ e1, r1, fun _ z => E1.av_tr z, ?_⟩
    cases hc : C f ds with
    | bad => rw [hc] at c1; exact (show False from c1).elim
    | exc x =>
      rw [hc] at c1
      exact fun cls dd H' st r => c1 cls dd H' (E1.mono st) (Adv.same st) r
    | ok d o =>
      rw [hc] at c1
      cases d with
      | lst es' =>
        intro l ws H' st hl hn r
        have E2 := E1.mono st
        refine c1 _ H' E2 (Adv.same st) ⟨l, ws, rfl, A1.nones l hl, hn, (new_h0 E1 hl).1, fun w => E1.av_tr w hl, ?_, Rps.imp (fun _ _ q => q) (fun b _ n q => ⟨fun w => n (av_guard b w), q⟩) r⟩
        have gd : ∀ {v : V} {d : D}, Rp F.P H1 (Av F σ e1) v d → Rp F.P H' (Av (F.guard l) σ e1) v d := fun r => Rp.imp (fun a vs q => sqt_st (fun o h _ => st _ _ h) q) (fun b o n q => ⟨fun w => (av_guard b w).elim n fun w => (by rw [w, hl] at q; cases q), st _ _ q⟩) r
        have gds : ∀ {v : List V} {d : List D}, Rps F.P H1 (Av F σ e1) v d → Rps F.P H' (Av (F.guard l) σ e1) v d := fun r => Rps.imp (fun a vs q => sqt_st (fun o h _ => st _ _ h) q) (fun b o n q => ⟨fun w => (av_guard b w).elim n fun w => (by rw [w, hl] at q; cases q), st _ _ q⟩) r
        refine ⟨E1.len, fun i d h => ?_, fun i m d h => ?_, E1.un, fun b w => ?_, fun b o h m => st _ _ (E1.fr b o h m), fun b m => ?_⟩
        · obtain ⟨v, z1, z2⟩ := E1.im i d h
          exact ⟨v, z1, gd z2⟩
        · obtain ⟨b, us, bs, z0, z1, z2, z3, z4, z5⟩ := E1.ow i m d h
          exact ⟨b, us, bs, z0, z1, st _ _ z2, gds z3, fun z => ⟨(z4 z).1, fun w => by
            rcases w with w | w
            · exact (z4 z).2 w
            · rw [w, hl] at z2; cases z2⟩, z5⟩
        · rcases w with w | w
          · exact E2.z b w
          · rw [w, hn]; simp
        · obtain ⟨xs, q⟩ := E1.mutd b m
          exact ⟨xs, st _ _ q⟩
      | _ => exact (show False from c1).elim
  · cases k
theorem snd_fcall {f : Nat} {es : List IE} (h : SndL S P n C G es) : Snd S P n C G (.fcall f es) := snd_of fun t e sc X W g hs tk k =>
  ⟨pe_of (fcall_pe h g hs tk k).1 tI_tIF, fun _ => (fcall_pe h g hs tk k).2⟩
theorem n_tcall {f : Nat} {k : Nat} {X : Cx} {W : WX} {nm : Str} {p pos : Pos} {a : IE} {es : List IE} {x : Expr} {xs : List Expr} (F : FnR X.prog X.w X.K X.mg X.base (L2.CX X.prog X.w) k (P.fa f) (spM P C f)) (hr : Room k X.A) (hg : Gl X nm) (hm : X.mg nm = some (.ref (P.fa f)))
    (hk : PySem.W.keepIn X.K (.ref (P.fa f)) = true) (tk : Takes X W) (ha : PE X x (tIF C G P W a)) (hl : PA X xs (tL C G P W es)) (hdb : (nm == ("__debug__" : Str)) = false)
    (he : starEach (x :: xs) X.env = (false, eval x X.env) :: starEach xs X.env) (hpl : (backTo pos (starEach xs X.env)).any (·.1) = false) :
    PE X (.Call (.Name nm p) (x :: xs) [] pos) (tI C G P W (.tcall f a es)) := by
  refine pe_of (pe_callF F hr hg hm hk tk (pa_cons ha hl he) hdb he hpl) fun σ H Q ⟨F', env, hP, E, k⟩ => ?_
  simp only [ev] at k
  refine ⟨F', env, hP, E, ?_⟩
  cases hv : ev C G a env with
  | bad => rw [hv] at k; exact (show False from k).elim
  | exc xx e => rw [hv] at k; exact k
  | ok pd e1 =>
    rw [hv] at k
    cases pd with
    | pk i => exact (show False from k).elim
    | val d =>
      cases d with
      | lst d0 =>
        have k : Cont F' σ (RPd F' σ) W H env Q ((evL C G es e1).bind fun ds e2 => match C f (.lst d0 :: ds) with
          | .ok d (.lst _) => .ok (.val d) e2
          | _ => .bad) := k
        intro v H1 E1 A1 ⟨l, ws, ev_, hb, fr⟩
        subst ev_
        obtain ⟨h1, h0, hna, Eg, hr0⟩ := fr
        have hM : ¬ F'.M l := fun m => by
          have q := E.mutd l m
          obtain ⟨xs, q⟩ := q
          rw [hb] at q
          cases q
        refine ⟨F'.guard l, e1, hP, Eg, ?_⟩
        cases hq : evL C G es e1 with
        | bad => rw [hq] at k; exact (show False from k).elim
        | exc xx e2 =>
          rw [hq] at k
          refine fun cls dd H2 E2 A2 rx => k cls dd H2 E2.unguard (A1.trans A2) ?_
          cases xx with
          | mk cc pl =>
            obtain ⟨z1, z2⟩ := rx
            refine ⟨z1, ?_⟩
            cases pl with
            | none => exact z2
            | some d =>
              obtain ⟨dx, v, y1, y2, y3⟩ := z2
              exact ⟨dx, v, y1, y2, Rp.imp (fun _ _ q => q) (fun b _ n q => ⟨fun w => n (by
                rcases w with w | w
                · exact .inl (.inl w)
                · exact .inr w), q⟩) y3⟩
        | ok ds e2 =>
          rw [hq] at k
          intro vs H2 E2 A2 r2
          have k : Cont F' σ (RPd F' σ) W H env Q (match C f (.lst d0 :: ds) with
            | .ok d (.lst _) => .ok (.val d) e2
            | _ => .bad) := k
          have hl2 : H2 l = some (.lst ws) := A2.st _ _ h1 (now_guard Eg hM)
          subst hP
          refine ⟨l, ws, d0, vs, ds, Av (F'.guard l) σ e2, rfl, hl2, Eg.stays A2 hr0, r2, .inl (.inr rfl), fun _ z => E2.av_tr z, ?_⟩
          split at k
          · rename_i d d1 h2
            try rw [h2]
            intro v H' ws' st hl' rl rv
            have E3 := E2.pokeTo hl2 h0 hM st hl'
            have A3 := (A1.trans A2).pokeTo hb st (by rw [hl']; simp)
            exact k v H' E3.unguard A3 (Rp.imp (fun _ _ q => q) (fun b _ n q => ⟨fun w => n (by
                rcases w with w | w
                · exact .inl (.inl w)
                · exact .inr w), q⟩) rv)
          · exact (show False from k).elim
      | _ => exact (show False from k).elim
theorem snd_tcall {f : Nat} {a : IE} {es : List IE} (ha : ∀ (e : Expr) (sc : Scope) (X : Cx) (W : WX), Good S P n C G X → X.env.scope = sc → Takes X W → freshB a = true → chk S sc false a e = true → PE X e (tIF C G P W a)) (h : SndL S P n C G es) : Snd S P n C G (.tcall f a es) := snd_of fun t e sc X W g hs tk k => by
  simp only [chk] at k
  split at k
  · simp only [Bool.and_eq_true, decide_eq_true_eq] at k
    obtain ⟨⟨⟨⟨⟨⟨⟨h1, h2⟩, h3⟩, h4⟩, h5⟩, h6⟩, h7⟩, h8⟩ := k
    obtain ⟨f1, f2, f3⟩ := g.fns f _ _ h2 h1
    simp only [List.all_cons, Bool.and_eq_true] at h5
    exact ⟨n_tcall f3 g.hr (gl_of hs h3) f1 f2 tk (ha _ sc X W g hs tk h6 h7) (h _ sc X W g hs tk h8) (nodb_of h4).1 (starEach_ns h5.1) (plain_args h5.2), fun _ _ => rfl⟩
  · cases k
theorem f_lst {es : List IE} {X : Cx} {xs : List Expr} {W : WX} {pos : Pos} (h : PA X xs (tL C G P W es)) : PE X (.List xs pos) (tIF C G P W (.lst es)) := by
  refine pe_of (pe_lst h) fun σ H Q ⟨F, env, hP, E, k⟩ => ?_
  simp only [ev] at k
  refine ⟨F, env, hP, E, (Cont.bind k).mono fun vs H1 ⟨ds, e1, E1, A1, r1, c1⟩ => ?_⟩
  split at c1
  · rename_i hz
    exact ⟨sl_le (by rw [Rps.length r1]; exact hz), fun p hp => fin_resF E1 A1.nones c1 p vs hp r1⟩
  · exact (show False from c1).elim
theorem f_op {o : Op} {X : Cx} {x y : Expr} {a b : IE} {W : WX} {pos : Pos} (ha : PE X x (tI C G P W a)) (hb : PE X y (tI C G P W b)) : PE X (.BinOp x (opOf o) y pos) (tIF C G P W (.op o a b)) := by
  refine pe_of (pe_op (op_ok (P := P) o) ha hb) fun σ H Q ⟨F, env, hP, E, k⟩ => ?_
  simp only [ev] at k
  refine ⟨F, env, hP, E, (Cont.bind k).mono fun v H1 ⟨p, e1, E1, A1, r1, c1⟩ => ⟨F, e1, hP, E1, (Cont.bind c1).mono fun w H2 ⟨q, e2, E2, A2, r2, c2⟩ => ?_⟩⟩
  have r1' := E1.pdStay A2 r1
  subst hP
  cases h1 : p.get e2 with
  | none => rw [h1] at c2; exact (show False from c2).elim
  | some dx =>
    cases h2 : q.get e2 with
    | none => rw [h1, h2] at c2; exact (show False from c2).elim
    | some dy =>
      cases h3 : opD o dx dy with
      | none => simp only [h1, h2, h3, Option.bind, pdv] at c2; exact (show False from c2).elim
      | some d =>
        simp only [h1, h2, h3, Option.bind, pdv] at c2
        exact ⟨_, dx, dy, d, E2.pd r1' h1, E2.pd r2 h2, h3, fin_resF E2 (A1.trans A2).nones c2⟩
theorem bi_endF {bb : Bi} {es : List IE} {W : WX} {r : List V → Hp → VK → Prop} (hr : r = rB P bb) : ∀ σ H Q, tIF C G P W (.bi bb es) σ H Q → tCB r (tA C G P W es) σ H Q := by
  intro σ H Q ⟨F', env, hP, E, k⟩
  simp only [ev] at k
  refine ⟨F', env, hP, E, (Cont.bind k).mono fun vs H1 ⟨ps, e1, E1, A1, r1, c1⟩ => ?_⟩
  cases h1 : getsAll e1 ps with
  | none => rw [h1] at c1; exact (show False from c1).elim
  | some ds =>
    obtain ⟨q1, _, _⟩ := rps_any E1 r1 h1
    cases h2 : biD bb ds with
    | none => simp only [h1, h2, Option.bind, pdv] at c1; exact (show False from c1).elim
    | some d =>
      simp only [h1, h2, Option.bind, pdv] at c1
      subst hr hP
      exact ⟨_, ds, d, q1, h2, fin_resF E1 A1.nones c1⟩
def SndF (S : CK) (P : Pg) (n : Nat) (C : Orc) (G : List D) (ir : IE) : Prop := ∀ (e : Expr) (sc : Scope) (X : Cx) (W : WX), Good S P n C G X → X.env.scope = sc → Takes X W → freshB ir = true → chk S sc false ir e = true → PE X e (tIF C G P W ir)
theorem sf_no {ir : IE} (h : freshB ir = false) : SndF S P n C G ir := fun e sc X W g hs tk k => by rw [h] at k; cases k
theorem sf_lst {es : List IE} (h : SndL S P n C G es) : SndF S P n C G (.lst es) := fun e sc X W g hs tk _ k => by
  simp only [chk] at k
  split at k
  · exact f_lst (h _ sc X W g hs tk k)
  · cases k
theorem sf_op {o : Op} {a b : IE} (ha : Snd S P n C G a) (hb : Snd S P n C G b) : SndF S P n C G (.op o a b) := fun e sc X W g hs tk _ k => by
  simp only [chk] at k
  split at k
  · simp only [Bool.and_eq_true, decide_eq_true_eq] at k
    obtain ⟨⟨rfl, h2⟩, h3⟩ := k
    exact f_op ((ha _ sc X W g hs tk).1 h2) ((hb _ sc X W g hs tk).1 h3)
  · cases k
theorem sf_bi {b : Bi} {es : List IE} (h : SndA S P n C G es) : SndF S P n C G (.bi b es) := fun e sc X W g hs tk hf k => by
  cases b with
  | list =>
    simp only [chk] at k
    split at k
    · simp only [Bool.and_eq_true, decide_eq_true_eq] at k
      obtain ⟨⟨⟨⟨rfl, h3⟩, h4⟩, h5⟩, h6⟩ := k
      have pa := h _ sc X W g hs tk h6 h5
      simp only [List.all_cons, Bool.and_eq_true] at h5
      exact pe_of (pe_callTy (bi_list g.hK) (gl_of hs h3) (g.blt "list" (by simp)) (by decide +kernel) pa (by decide) (by decide) (starEach_ns h5.1) (plain_args h5.2)) (bi_endF rfl)
    · cases k
  | _ => cases hf
theorem sf_lc {elt c : IE} {t : List Nat} {k : SK} {ss : List IE} (he : Snd S P n C G elt) (hc : Snd S P n C G c) (hss : SndL S P n C G ss) (hs1 : ∀ a, ss = [a] → Snd S P n C G a) : SndF S P n C G (.lc elt t k ss c) := fun e sc X W g hs tk _ k => lc_pe he hc hss hs1 g hs tk k
theorem sf_fcall {f : Nat} {es : List IE} (h : SndL S P n C G es) : SndF S P n C G (.fcall f es) := fun e sc X W g hs tk _ k => (fcall_pe h g hs tk k).1
def notStar : IE → Bool
  | .star _ => false
  | _ => true
/-- all of an IR -/
def SndX (S : CK) (P : Pg) (n : Nat) (C : Orc) (G : List D) (ir : IE) : Prop := Snd S P n C G ir ∧ (∀ a, ir = .star a → Snd S P n C G a) ∧ SndF S P n C G ir
theorem lift {ir : IE} (h : Snd S P n C G ir) (k : notStar ir = true) (f : SndF S P n C G ir) : SndX S P n C G ir := ⟨h, fun a e => (by rw [e] at k; cases k), f⟩
theorem snd_star {e : IE} : Snd S P n C G (.star e) := snd_of fun t e sc X W g hs tk k => by cases k
theorem star_inj {e : IE} (q : Snd S P n C G e) : ∀ a, IE.star e = .star a → Snd S P n C G a := fun a h => by
  injection h with h
  rw [← h]
  exact q
theorem one_inj {b : IE} {r : List IE} (q : Snd S P n C G b) : ∀ a, b :: r = [a] → Snd S P n C G a := fun a h => by
  injection h with h _
  rw [← h]
  exact q
theorem chkL_cons {S : CK} {sc : Scope} {e : IE} {es : List IE} {x : Expr} {r : List Expr} (h : ∀ a, e ≠ .star a) : chkL S sc (e :: es) (x :: r) = ((noStar x && chk S sc false e x) && chkL S sc es r) := by
  cases e <;> first | rfl | exact absurd rfl (h _)
mutual
theorem snd2 : ∀ ir : IE, SndX S P n C G ir
  | .var i => lift (snd_var i) rfl (sf_no rfl)
  | .pk i => lift (snd_pk i) rfl (sf_no rfl)
  | .nop => lift snd_nop rfl (sf_no rfl)
  | .non => lift snd_non rfl (sf_no rfl)
  | .bl b => lift (snd_bl b) rfl (sf_no rfl)
  | .int i => lift (snd_int i) rfl (sf_no rfl)
  | .str x => lift (snd_str x) rfl (sf_no rfl)
  | .gc k => lift (snd_gc k) rfl (sf_no rfl)
  | .op o a b => lift (snd_op (snd2 a).1 (snd2 b).1) rfl (sf_op (snd2 a).1 (snd2 b).1)
  | .neg a => lift (snd_neg (snd2 a).1) rfl (sf_no rfl)
  | .cmp o a b => lift (snd_cmp (snd2 a).1 (snd2 b).1) rfl (sf_no rfl)
  | .chn o o' a b c => lift (snd_chn (snd2 a).1 (snd2 b).1 (snd2 c).1) rfl (sf_no rfl)
  | .and a b => lift (snd_and (snd2 a).1 (snd2 b).1) rfl (sf_no rfl)
  | .or a b => lift (snd_or (snd2 a).1 (snd2 b).1) rfl (sf_no rfl)
  | .not a => lift (snd_not (snd2 a).1) rfl (sf_no rfl)
  | .ite t a b => lift (snd_ite (snd2 t).1 (snd2 a).1 (snd2 b).1) rfl (sf_no rfl)
  | .tup es => lift (snd_tup (sndL es)) rfl (sf_no rfl)
  | .lst es => lift (snd_lst (sndL es)) rfl (sf_lst (sndL es))
  | .star e => ⟨snd_star, star_inj (snd2 e).1, sf_no rfl⟩
  | .ix a b => lift (snd_ix (snd2 a).1 (snd2 b).1) rfl (sf_no rfl)
  | .call f es => lift (snd_call (sndA es)) rfl (sf_no rfl)
  | .calls f es => lift (snd_calls (sndL es)) rfl (sf_no rfl)
  | .mcall f i es => lift (snd_mcall (sndL es)) rfl (sf_no rfl)
  | .bi b es => lift (snd_bi (sndA es)) rfl (sf_bi (sndA es))
  | .fcall f es => lift (snd_fcall (sndL es)) rfl (sf_fcall (sndL es))
  | .tcall f a es => lift (snd_tcall (snd2 a).2.2 (sndL es)) rfl (sf_no rfl)
  | .isi t e => lift (snd_isi (snd2 e).1) rfl (sf_no rfl)
  | .lc elt t k ss c => lift (snd_lc (snd2 elt).1 (snd2 c).1 (sndL ss) (sndE ss)) rfl (sf_lc (snd2 elt).1 (snd2 c).1 (sndL ss) (sndE ss))
theorem sndE : ∀ es : List IE, ∀ a, es = [a] → Snd S P n C G a
  | [], a, h => by cases h
  | b :: r, a, h => one_inj (r := r) (snd2 b).1 a h
theorem sndL : ∀ es : List IE, SndL S P n C G es
  | [] => fun xs sc X W g hs tk k => by
    cases xs with
    | nil => exact l_nil
    | cons _ _ => cases k
  | e :: es => fun xs sc X W g hs tk k => by
    have h1 : SndX S P n C G e := snd2 e
    have h2 : SndL S P n C G es := sndL es
    cases xs with
    | nil => cases k
    | cons x r =>
      by_cases hn : ∃ a, e = .star a
      · obtain ⟨a, rfl⟩ := hn
        simp only [chkL, Bool.and_eq_true] at k
        obtain ⟨k1, k2⟩ := k
        split at k1
        · exact l_star g.hK ((h1.2.1 a rfl _ sc X W g hs tk).1 k1) (h2 _ sc X W g hs tk k2)
        · cases k1
      · have hn' : ∀ a, e ≠ .star a := fun a z => hn ⟨a, z⟩
        rw [chkL_cons hn'] at k
        simp only [Bool.and_eq_true] at k
        exact l_cons ((h1.1 _ sc X W g hs tk).1 k.1.2) (h2 _ sc X W g hs tk k.2) hn' (starEach_ns k.1.1)
theorem sndA : ∀ es : List IE, SndA S P n C G es
  | [] => fun xs sc X W g hs tk k _ => by
    cases xs with
    | nil => exact a_nil
    | cons _ _ => cases k
  | e :: es => fun xs sc X W g hs tk k ns => by
    have h1 : Snd S P n C G e := (snd2 e).1
    have h2 : SndA S P n C G es := sndA es
    cases xs with
    | nil => cases k
    | cons x r =>
      simp only [chkA, Bool.and_eq_true] at k
      simp only [List.all_cons, Bool.and_eq_true] at ns
      exact a_cons ((h1 _ sc X W g hs tk).1 k.1.2) (h2 _ sc X W g hs tk k.2 ns.2) (starEach_ns ns.1)
end
theorem snd (ir : IE) : Snd S P n C G ir := (snd2 ir).1
theorem sndF {ir : IE} (hf : freshB ir = true) {e : Expr} {sc : Scope} {X : Cx} {W : WX} (g : Good S P n C G X) (hs : X.env.scope = sc) (tk : Takes X W) (k : chk S sc false ir e = true) : PE X e (tIF C G P W ir) := (snd2 ir).2.2 e sc X W g hs tk hf k
end
end TT


set_option maxHeartbeats 4000000
namespace TT
open PySem L2 PySem.Spec PyProof.Rows

inductive IS where
  | set (i : Nat) (e : IE)
  | asg (t : List Nat) (e : IE)
  | par (i j : Nat) (a b : IE)
  | setix (i : Nat) (k e : IE)
  | app (i : Nat) (e : IE)
  | ex (e : IE)
  | ret (e : IE)
  | retn
  | iff (c : IE) (a b : List IS)
  | whl (c : IE) (b : List IS)
  | forr (t : List Nat) (k : SK) (ss : List IE) (b : List IS)
  | pass | brk | cont | never
inductive FR where | nx (e : Env) | rt (d : D) (fr : Bool) (e : Env) | bk (e : Env) | ct (e : Env) | exc (x : Xn) (e : Env) | bad
def Out.toS {α : Type} (m : Out α) (k : α → Env → FR) : FR :=
  match m with
  | .ok a e => k a e
  | .exc x e => .exc x e
  | .bad => .bad
def Out.toV (m : Out Pd) (k : D → Env → FR) : FR := m.toS fun p e => match p with | .val d => k d e | .pk _ => .bad
def FR.seq (m : FR) (k : Env → FR) : FR :=
  match m with
  | .nx e => k e
  | m => m
def setSl (fr : Bool) (d : D) : Sl :=
  match d with
  | .lst ds => if fr then .ow false (.lst ds) else .im (.lst ds)
  | d => .im d
def putS (env : Env) (i : Nat) (s : Sl) : FR := if i < env.length then .nx (env.set i s) else .bad
/-- the turns of a while, at most n -/
def whlL (c : Env → Out Bool) (b : Env → FR) : Nat → Env → FR
  | 0, _ => .bad
  | n + 1, env => (c env).toS fun k e => if k = true then (match b e with
    | .nx e' => whlL c b n e'
    | .ct e' => whlL c b n e'
    | .bk e' => .nx e'
    | m => m) else .nx e
def forL (t : List Nat) (b : Env → FR) : List D → Env → FR
  | [], env => .nx env
  | d :: ds, env => match bindT t d env with
    | none => .bad
    | some e => match b e with
      | .nx e' => forL t b ds e'
      | .ct e' => forL t b ds e'
      | .bk e' => .nx e'
      | m => m
/-- what is walked: a list, a tuple by its operand, or ranges -/
def srcE (C : Orc) (G : List D) (k : SK) (ss : List IE) (env : Env) : Out (List D) := (evL C G ss env).bind fun ds e => match items k ds with
  | none => .bad
  | some ys => .ok ys e
def isLst : D → Bool
  | .lst _ => true
  | _ => false
/-- a name that owns its list -/
def ownV (a : IE) (env : Env) : Bool := match a with
  | .var i => (match env[i]? with
    | some (.ow false _) => true
    | _ => false)
  | _ => false
mutual
/-- B: the most turns of a while -/
def ex (C : Orc) (G : List D) (B : Nat) : IS → Env → FR
  | .set i a, env => (ev C G a env).toV fun d e => putS e i (setSl (freshB a) d)
  | .asg t a, env => (ev C G a env).toV fun d e => match bindT t d e with
    | none => .bad
    | some e' => .nx e'
  | .par i j a b, env => (ev C G a env).toV fun x e1 => (ev C G b e1).toV fun y e2 => if i < e2.length ∧ j < e2.length then .nx ((e2.set i (.im x)).set j (.im y)) else .bad
  | .setix i k a, env => (ev C G a env).toV fun d e1 => if (gets e1 i).isNone then .bad else (ev C G k e1).toV fun x e2 => match e2[i]?, x with
    | some (.ow m (.lst ds)), .int z => match ixNat ds.length z with
      | none => .bad
      | some n => .nx (e2.set i (.ow m (.lst (ds.set n d))))
    | _, _ => .bad
  | .app i a, env => match env[i]? with
    | some (.ow _ (.lst _)) => (ev C G a env).toV fun d e1 => match e1[i]? with
      | some (.ow m (.lst ds)) => if ds.length < SL then .nx (e1.set i (.ow m (.lst (ds ++ [d])))) else .bad
      | _ => .bad
    | _ => .bad
  | .ex a, env => (ev C G a env).toS fun _ e => .nx e
  | .ret a, env => (ev C G a env).toV fun d e => .rt d (isLst d && (freshB a || ownV a env)) e
  | .retn, env => .rt .non false env
  | .iff c a b, env => (evT C G c env).toS fun k e => if k = true then exs C G B a e else exs C G B b e
  | .whl c b, env => whlL (fun e => evT C G c e) (fun e => exs C G B b e) B env
  | .forr t k ss b, env => (srcE C G k ss env).toS fun ys e => if ys.length ≤ SL then forL t (fun e => exs C G B b e) ys e else .bad
  | .pass, env => .nx env
  | .brk, env => .bk env
  | .cont, env => .ct env
  | .never, _ => .bad
def exs (C : Orc) (G : List D) (B : Nat) : List IS → Env → FR
  | [], env => .nx env
  | s :: r, env => (ex C G B s env).seq fun e => exs C G B r e
end

/-! ### the text of a statement -/
def isLC : Expr → Bool
  | .ListComp _ _ _ _ => true
  | _ => false
def isComp : Expr → Bool
  | .ListComp _ _ _ _ => true
  | .SetComp _ _ _ _ => true
  | .DictComp _ _ _ _ _ => true
  | _ => false
def isTupE : Expr → Bool
  | .Tuple _ _ _ => true
  | _ => false
/-- name = [..] within one step -/
def swB (sc : Scope) (x : Str) (px : Pos) (e : Expr) (line : Nat) : Bool :=
  match e with
  | .ListComp _ _ scope pos => (match sc.names.lookup x with
      | some .local => true
      | _ => false) && px.line == line && px.line == pos.line && !(scope.names.any fun (n, k) => n == x && (k == .local || k == .cell))
  | _ => false
def blkFn (sc : Scope) : Bool := match sc.kind with
  | .function => true
  | _ => false
mutual
def chkS (S : CK) (sc : Scope) : IS → Stmt → Bool
  | .set i a, s => match s with
    | .Assign [.Name x px] e pos => decide (S.N[i]? = some x) && locB sc true x && chk S sc false a e && (!isComp e || (swB sc x px e pos.line && isLC e))
    | _ => false
  | .asg t a, s => match s with
    | .Assign [.Tuple es k p] e pos => tgB S sc true t (.Tuple es k p) && chk S sc false a e && !isComp e && !isTupE e
    | _ => false
  | .par i j a b, s => match s with
    | .Assign [.Tuple [.Name x px, .Name y py] _ _] (.Tuple [e1, e2] _ _) _ => decide (S.N[i]? = some x) && decide (S.N[j]? = some y) && decide (i ≠ j) && decide (x ≠ y) && (match sc.names.lookup x with
        | some .local => true
        | _ => false) && (match sc.names.lookup y with
        | some .local => true
        | _ => false) && px.line == py.line && !(([e1, e2] : List Expr).all (foldedForSure 8)) && !(([e1, e2] : List Expr).all (constantsAlone 8)) && noStar e1 && noStar e2 && chk S sc false a e1 && chk S sc false b e2
    | _ => false
  | .setix i k a, s => match s with
    | .Assign [.Subscript (.Name x _) y _] e _ => nmB S sc i x && plainIxB y && !isComp e && chk S sc false a e && chk S sc false k y
    | _ => false
  | .app i a, s => match s with
    | .Expr (.Call (.Attribute (.Name x _) m ap) [e] [] cp) _ => decide (m = ("append" : Str)) && ap.endLine == cp.line && nmB S sc i x && noStar e && chk S sc false a e
    | _ => false
  | .ex a, s => match s with
    | .Expr e _ => !isComp e && chk S sc false a e
    | _ => false
  | .ret a, s => match s with
    | .Return (some e) _ => chk S sc false a e
    | _ => false
  | .retn, s => match s with
    | .Return none _ => true
    | _ => false
  | .iff c a b, s => match s with
    | .If e x y _ => chk S sc true c e && chkSs S sc a x && chkSs S sc b y
    | _ => false
  | .whl c b, s => match s with
    | .While e x [] _ => chk S sc true c e && chkSs S sc b x
    | _ => false
  | .forr t k ss b, s => match s with
    | .For tg it x [] _ => tgB S sc true t tg && noSet it && (match k with
        | .seq => (match ss with
          | [a] => chk S sc false a it
          | _ => false)
        | .rng1 => (match isRange sc it with
          | some ys => ys.length == 1 && chkL S sc ss ys
          | none => false)
        | .rng2 => (match isRange sc it with
          | some ys => ys.length == 2 && chkL S sc ss ys
          | none => false)) && chkSs S sc b x
    | _ => false
  | .pass, s => match s with
    | .Pass _ => true
    | _ => false
  | .brk, s => match s with
    | .Break _ => true
    | _ => false
  | .cont, s => match s with
    | .Continue _ => true
    | _ => false
  | .never, _ => true
def chkSs (S : CK) (sc : Scope) : List IS → List Stmt → Bool
  | [], xs => xs.isEmpty
  | a :: r, xs => match xs with
    | [] => false
    | x :: ys => chkS S sc a x && chkSs S sc r ys
end

/-! ### readings -/
/-- what is handed back; fr: a list that nothing else reaches -/
def RtOk (F : Frm) (σ : L2.St) (H : Hp) (e : Env) (v : V) (d : D) (fr : Bool) : Prop := Rp F.P H (Av F σ e) v d ∧
  (fr = true → ∃ a vs ds, v = .ref a ∧ d = .lst ds ∧ H a = some (.lst vs) ∧ F.H0 a = none ∧ Rps F.P H (fun b => F.Z b ∨ b = a) vs ds)
def ContS (F : Frm) (W : WX) (σ : L2.St) (H : Hp) (env : Env) (D : Ends) : FR → Prop
  | .nx e => ∀ σ' H', EnvOk F σ' H' e → Adv σ env H σ' e H' → D.nx σ' H'
  | .rt d fr e => ∀ v σ' H', EnvOk F σ' H' e → Adv σ env H σ' e H' → RtOk F σ' H' e v d fr → D.rt v H'
  | .bk e => ∀ σ' H', EnvOk F σ' H' e → Adv σ env H σ' e H' → D.bk σ' H'
  | .ct e => ∀ σ' H', EnvOk F σ' H' e → Adv σ env H σ' e H' → D.ct σ' H'
  | .exc x e => ∀ cls dd σ' H', EnvOk F σ' H' e → Adv σ env H σ' e H' → XRl F.P H' (Av F σ' e) x cls dd → W cls dd σ' H'
  | .bad => False
section
variable {F : Frm} {W : WX} {σ σ' : L2.St} {H H' : Hp} {env env' : Env} {D : Ends}
theorem ContS.shift {m : FR} (h : ContS F W σ H env D m) (A : Adv σ env H σ' env' H') : ContS F W σ' H' env' D m := by
  cases m with
  | nx e => exact fun σ2 H2 E A' => h σ2 H2 E (A.trans A')
  | rt d fr e => exact fun v σ2 H2 E A' r => h v σ2 H2 E (A.trans A') r
  | bk e => exact fun σ2 H2 E A' => h σ2 H2 E (A.trans A')
  | ct e => exact fun σ2 H2 E A' => h σ2 H2 E (A.trans A')
  | exc x e => exact fun cls dd σ2 H2 E A' r => h cls dd σ2 H2 E (A.trans A') r
  | bad => exact h
theorem ContS.toS {α β : Type} {R : Hp → Env → β → α → Prop} {m : Out α} {k : α → Env → FR} (h : ContS F W σ H env D (m.toS k)) :
    Cont F σ R W H env (fun b H1 => ∃ a e1, EnvOk F σ H1 e1 ∧ Adv σ env H σ e1 H1 ∧ R H1 e1 b a ∧ ContS F W σ H1 e1 D (k a e1)) m := by
  cases m with
  | ok a e => exact fun b H1 E A r => ⟨a, e, E, A, r, ContS.shift h A⟩
  | exc x e => exact fun cls dd H1 E A r => h cls dd σ H1 E A r
  | bad => exact h
theorem ContS.toV {m : Out Pd} {k : TT.D → Env → FR} (h : ContS F W σ H env D (m.toV k)) :
    Cont F σ (RPd F σ) W H env (fun v H1 => ∃ d e1, EnvOk F σ H1 e1 ∧ Adv σ env H σ e1 H1 ∧ Rp F.P H1 (Av F σ e1) v d ∧ ContS F W σ H1 e1 D (k d e1)) m :=
  Cont.mono (ContS.toS h) fun v H1 ⟨p, e1, E, A, r, c⟩ => by
    cases p with
    | val d => exact ⟨d, e1, E, A, r, c⟩
    | pk i => exact (show False from c).elim
theorem ContS.toVF {m : Out Pd} {k : TT.D → Env → FR} (h : ContS F W σ H env D (m.toV k)) :
    Cont F σ (RFr F σ H) W H env (fun v H1 => ∃ d e1, EnvOk F σ H1 e1 ∧ Adv σ env H σ e1 H1 ∧ RFr F σ H H1 e1 v (.val d) ∧ ContS F W σ H1 e1 D (k d e1)) m :=
  Cont.mono (ContS.toS h) fun v H1 ⟨p, e1, E, A, r, c⟩ => by
    cases p with
    | val d => exact ⟨d, e1, E, A, r, c⟩
    | pk i => exact (show False from c).elim
/-- other ends -/
theorem ContS.ends {D' : Ends} {m : FR} (h : ContS F W σ H env D m) (h1 : ∀ σ' H', D.nx σ' H' → D'.nx σ' H') (h2 : ∀ v H', D.rt v H' → D'.rt v H') (h3 : ∀ σ' H', D.bk σ' H' → D'.bk σ' H') (h4 : ∀ σ' H', D.ct σ' H' → D'.ct σ' H') : ContS F W σ H env D' m := by
  cases m with
  | nx e => exact fun σ2 H2 E A' => h1 _ _ (h σ2 H2 E A')
  | rt d fr e => exact fun v σ2 H2 E A' r => h2 _ _ (h v σ2 H2 E A' r)
  | bk e => exact fun σ2 H2 E A' => h3 _ _ (h σ2 H2 E A')
  | ct e => exact fun σ2 H2 E A' => h4 _ _ (h σ2 H2 E A')
  | exc x e => exact h
  | bad => exact h
theorem ContS.seq {m : FR} {k : Env → FR} (h : ContS F W σ H env D (m.seq k)) :
    ContS F W σ H env { D with nx := fun σ1 H1 => ∃ e1, EnvOk F σ1 H1 e1 ∧ Adv σ env H σ1 e1 H1 ∧ ContS F W σ1 H1 e1 D (k e1) } m := by
  cases m with
  | nx e => exact fun σ1 H1 E A => ⟨e, E, A, ContS.shift h A⟩
  | rt d fr e => exact h
  | bk e => exact h
  | ct e => exact h
  | exc x e => exact h
  | bad => exact h
end
def tS (C : Orc) (G : List D) (B : Nat) (P : Pg) (W : WX) (s : IS) : TS := fun D σ H => ∃ F env, F.P = P ∧ EnvOk F σ H env ∧ ContS F W σ H env D (ex C G B s env)
def tSs (C : Orc) (G : List D) (B : Nat) (P : Pg) (W : WX) (s : List IS) : TS := fun D σ H => ∃ F env, F.P = P ∧ EnvOk F σ H env ∧ ContS F W σ H env D (exs C G B s env)
section
variable {X : Cx} {st : Stmt} {sts : List Stmt} {t t' : TS}
theorem ps_of (h : PS X st t) (k : ∀ D σ H, t' D σ H → t D σ H) : PS X st t' := ⟨fun pins s σ H D I w => h.run pins s σ H D I (k D σ H w)⟩
theorem pss_of (h : PSs X sts t) (k : ∀ D σ H, t' D σ H → t D σ H) : PSs X sts t' := ⟨fun pins s σ H D I w => h.run pins s σ H D I (k D σ H w)⟩
end
end TT

set_option maxHeartbeats 4000000
namespace TT
open PySem L2 PySem.Spec PyProof.Rows

theorem swaps_no {e : Expr} {t : Option Expr} {l : Nat} {env : PySem.Env} (h : isComp e = false) : swapsWith e t l env = pure false := by
  cases e with
  | ListComp _ _ _ _ => cases h
  | SetComp _ _ _ _ => cases h
  | DictComp _ _ _ _ _ => cases h
  | _ => rfl
theorem sole_no {t e : Expr} {l : Nat} {env : PySem.Env} (h : isComp e = false) : swapsWithSole [t] e l env = pure false := swaps_no (t := some t) h
theorem stores_no {es : List Expr} {k : Nat} {p : Pos} {e : Expr} {env : PySem.Env} (h : isTupE e = false) : swappedStores [.Tuple es k p] e env = pure none := by
  cases e with
  | Tuple _ _ _ => cases h
  | _ => rfl
theorem blkFn_of {sc : Scope} {env : PySem.Env} (hs : env.scope = sc) (h : sc.kind = .function) : env.blockKind = .function := by
  unfold Env.blockKind
  rw [hs, h]
  rfl
theorem stores_par {sc : Scope} {env : PySem.Env} {x y : Str} {px py pt p2 : Pos} {k k2 : Nat} {a b : Expr} (hs : env.scope = sc) (hk : sc.kind = .function) (hx : sc.names.lookup x = some .local) (hy : sc.names.lookup y = some .local) (hn : x ≠ y) (hl : (px.line == py.line) = true)
    (h1 : ([a, b] : List Expr).all (foldedForSure 8) = false) (h2 : ([a, b] : List Expr).all (constantsAlone 8) = false) (ha : noStar a = true) (hb : noStar b = true) :
    swappedStores [.Tuple [.Name x px, .Name y py] k pt] (.Tuple [a, b] k2 p2) env = pure (some [x, y]) := by
  have kx : env.kindOf x = some .local := by unfold Env.kindOf; rw [hs]; exact hx
  have ky : env.kindOf y = some .local := by unfold Env.kindOf; rw [hs]; exact hy
  have hb' := blkFn_of hs hk
  have el : (py.line == px.line) = true := by
    rw [beq_iff_eq] at hl ⊢
    exact hl.symm
  have ed : ([x, y] : List Str).eraseDups.length = 2 := by
    have : (y == x) = false := by
      rw [beq_eq_false_iff_ne]
      exact fun z => hn z.symm
    simp [List.eraseDups_cons, this]
  unfold swappedStores
  simp only [hb', List.length_cons, List.length_nil, List.any_cons, List.any_nil, List.head?_cons, Option.map_some, Option.getD_some, Expr.pos, List.filterMap_cons, List.filterMap_nil, kx, ky, el, ed, h1, h2, Bool.or_false, Bool.false_eq_true, if_false]
  simp [ed]
  intro h
  rcases h with h | h
  · cases a with
    | Starred _ _ => cases ha
    | _ => cases h
  · cases b with
    | Starred _ _ => cases hb
    | _ => cases h
section
variable {S : CK} {P : Pg} {n : Nat} {C : Orc} {G : List D} {B : Nat}
/-- what is known of a place among statements -/
structure GoodS (S : CK) (P : Pg) (n : Nat) (C : Orc) (G : List D) (sc : Scope) (X : Cx) (W : WX) : Prop where
  g : Good S P n C G X
  hs : X.env.scope = sc
  hk : sc.kind = .function
  tk : Takes X W
  hf : ∀ x, X.fn x = true
  hp : PassesOwn (model X.prog X.w) X.A X.env X.xe
variable {sc : Scope} {X : Cx} {W : WX}
theorem setSl_no {fr : Bool} {d : D} (h : ∀ ds, d ≠ .lst ds) : setSl fr d = .im d := by
  cases d with
  | lst ds => exact absurd rfl (h ds)
  | _ => rfl
theorem Adv.own {σ : L2.St} {H H' : Hp} {env e : Env} {i : Nat} {a : Addr} {d : D} (A : Adv σ env H σ e H') (h : H a = none) (hi : i < e.length) (hl : σ.length = e.length) : Adv σ env H (σ.set i (some (V.ref a))) (e.set i (.ow false d)) H' where
  ow := fun b w => by
    obtain ⟨j, m, d', q1, q2⟩ := w
    rcases env_set q1 with ⟨e1, _, _⟩ | ⟨n, q⟩
    · subst e1
      rw [List.getElem?_set_self (by rw [hl]; exact hi)] at q2
      cases q2
      exact .inr h
    · rw [List.getElem?_set_ne (Ne.symm n)] at q2
      exact A.ow b ⟨j, m, d', q, q2⟩
  st := A.st
  tr := A.tr
theorem Fresh.own {F : Frm} {σ : L2.St} {H : Hp} {e : Env} {a : Addr} {vs : List V} {ds : List D} {i : Nat} (f : Fresh F σ H e a vs ds) (hi : i < e.length) : EnvOk F (σ.set i (some (V.ref a))) H (e.set i (.ow false (.lst ds))) := by
  obtain ⟨h1, h2, h3, h4, h5⟩ := f
  have up : ∀ b, Av F σ e b ∨ b = a → Av (F.guard a) σ e b := fun b w => by
    rcases w with (w | w) | w
    · exact .inl (.inl w)
    · exact .inr w
    · exact .inl (.inr w)
  have dn : ∀ {v : V} {d : D}, Rp F.P H (Av (F.guard a) σ e) v d → Rp F.P H (fun b => Av F σ e b ∨ b = a) v d := fun r => Rp.imp (fun _ _ q => q) (fun b _ n q => ⟨fun w => n (up b w), q⟩) r
  have dns : ∀ {v : List V} {d : List D}, Rps F.P H (Av (F.guard a) σ e) v d → Rps F.P H (fun b => Av F σ e b ∨ b = a) v d := fun r => Rps.imp (fun _ _ q => q) (fun b _ n q => ⟨fun w => n (up b w), q⟩) r
  refine EnvOk.own h4.unguard hi h2 h3 h1 (fun j d n q => ?_) (fun j m d n q => ?_) (dns h5)
  · obtain ⟨v, z1, z2⟩ := h4.im j d q
    exact ⟨v, z1, dn z2⟩
  · obtain ⟨b, us, bs, z0, z1, z2, z3, _⟩ := h4.ow j m d q
    exact ⟨b, us, bs, z0, z1, z2, dns z3⟩
/-- a store behind an expression -/
theorem store_end {F : Frm} {σ : L2.St} {H H1 : Hp} {env e1 : Env} {De : Ends} {i : Nat} {a : IE} {v : V} {d : D} (A1 : Adv σ env H σ e1 H1) (E1 : EnvOk F σ H1 e1) (r : if freshB a = true then RFr F σ H H1 e1 v (.val d) else Rp F.P H1 (Av F σ e1) v d)
    (c : ContS F W σ H env De (putS e1 i (setSl (freshB a) d))) : De.nx (σ.set i (some v)) H1 := by
  unfold putS at c
  split at c
  · rename_i hi
    have im : ∀ {d : D}, Rp F.P H1 (Av F σ e1) v d → EnvOk F (σ.set i (some v)) H1 (e1.set i (.im d)) := fun {d} r => E1.put rfl fun d' e => by
      cases e
      exact ⟨v, rfl, E1.stay (Adv.put rfl) r⟩
    have Ai : ∀ {d : D}, Adv σ env H (σ.set i (some v)) (e1.set i (.im d)) H1 := A1.trans (Adv.put rfl)
    have plain : Rp F.P H1 (Av F σ e1) v d → setSl (freshB a) d = .im d → De.nx (σ.set i (some v)) H1 := fun r q => by
      rw [q] at c
      exact c _ _ (im r) Ai
    cases hf : freshB a with
    | false =>
      rw [hf] at r
      have r : Rp F.P H1 (Av F σ e1) v d := r
      refine plain r ?_
      rw [hf]
      cases d <;> rfl
    | true =>
      rw [hf] at r
      have r : RFr F σ H H1 e1 v (.val d) := r
      cases d with
      | lst ds =>
        obtain ⟨b, vs, rfl, h0, fr⟩ := r
        rw [hf] at c
        exact c _ _ (fr.own hi) (A1.own h0 hi E1.len.symm)
      | _ => exact plain r rfl
  · exact (show False from c).elim
/-- the wish of a store, by what is known of the value -/
theorem set_cont {F : Frm} {σ : L2.St} {H : Hp} {env : Env} {De : Ends} {i : Nat} {a : IE} (hf : freshB a = false) (c : ContS F W σ H env De ((ev C G a env).toV fun d e => putS e i (setSl (freshB a) d))) :
    Cont F σ (RPd F σ) W H env (fun v H1 => De.nx (σ.set i (some v)) H1) (ev C G a env) := by
  revert c
  cases ev C G a env with
  | ok p e =>
    cases p with
    | val d => exact fun c v H1 E A r => store_end A E (by rw [hf]; exact r) (show ContS F W σ H env De (putS e i (setSl (freshB a) d)) from c)
    | pk j => exact fun c => (show False from c).elim
  | exc x e => exact fun c cls dd H1 E A r => c cls dd σ H1 E A r
  | bad => exact fun c => (show False from c).elim
theorem set_contF {F : Frm} {σ : L2.St} {H : Hp} {env : Env} {De : Ends} {i : Nat} {a : IE} (hf : freshB a = true) (c : ContS F W σ H env De ((ev C G a env).toV fun d e => putS e i (setSl (freshB a) d))) :
    Cont F σ (RFr F σ H) W H env (fun v H1 => De.nx (σ.set i (some v)) H1) (ev C G a env) := by
  revert c
  cases ev C G a env with
  | ok p e =>
    cases p with
    | val d => exact fun c v H1 E A r => store_end A E (by rw [hf]; exact r) (show ContS F W σ H env De (putS e i (setSl (freshB a) d)) from c)
    | pk j => exact fun c => (show False from c).elim
  | exc x e => exact fun c cls dd H1 E A r => c cls dd σ H1 E A r
  | bad => exact fun c => (show False from c).elim
theorem s_set {i : Nat} {a : IE} {s : Stmt} (g : GoodS S P n C G sc X W) (k : chkS S sc (.set i a) s = true) : PS X s (tS C G B P W (.set i a)) := by
  unfold chkS at k
  split at k
  · rename_i x px e pos
    simp only [Bool.and_eq_true, decide_eq_true_eq] at k
    obtain ⟨⟨⟨k1, k2⟩, k3⟩, k4⟩ := k
    obtain ⟨l1, l2⟩ := loc_of g.hs (fun _ => g.hf) k2
    have nd : X.N.Nodup := by rw [g.g.hN]; exact g.g.nd
    have hi : X.N[i]? = some x := by rw [g.g.hN]; exact k1
    cases hc : isComp e with
    | false =>
      have sw : swapsWith e (some (.Name x px)) pos.line X.env = pure false := swaps_no hc
      cases hf : freshB a with
      | false =>
        refine ps_of (ps_set nd hi l1 ((snd a e sc X W g.g g.hs g.tk).1 k3) sw l2) fun De σ H ⟨F, env, hP, E, c⟩ => ?_
        simp only [ex] at c
        exact ⟨F, env, hP, E, set_cont hf c⟩
      | true =>
        refine ps_of (ps_set nd hi l1 (sndF hf g.g g.hs g.tk k3) sw l2) fun De σ H ⟨F, env, hP, E, c⟩ => ?_
        simp only [ex] at c
        exact ⟨F, env, hP, E, set_contF hf c⟩
    | true =>
      rw [hc] at k4
      simp only [Bool.not_true, Bool.false_or, Bool.and_eq_true] at k4
      obtain ⟨k5, k6⟩ := k4
      cases e with
      | ListComp elt gs scope p2 =>
        cases a with
        | lc el t sk ss cc =>
          obtain ⟨x', tg, it, ifs, scope', pos', wi, tq, te, he, L, q⟩ := lc_parts (snd el) (snd cc) (sndL ss) (sndE ss) g.g g.hs g.tk k3
          injection he with h1 h2 h3 h4
          subst h1 h2 h3 h4
          unfold swB at k5
          simp only [Bool.and_eq_true, Bool.not_eq_true'] at k5
          obtain ⟨⟨⟨z1, z2⟩, z3⟩, z4⟩ := k5
          have hl : X.env.scope.names.lookup x = some .local := by
            rw [g.hs]
            split at z1
            · assumption
            · cases z1
          have hsw := sw_true (elt := elt) (gs := [⟨tg, it, ifs, 0⟩]) (scope := scope) (pos := p2) (py := px) (y := x) (l := pos.line) (env := X.env) (by rw [g.hs]; exact g.hk) hl z3 z4
          refine ps_of (ps_setLc g.g.calm nd hi hl hsw L.hi L.ok L.hg L.ht L.he L.hs) fun De σ H ⟨F, env, hP, E, c⟩ => ?_
          simp only [ex] at c
          exact q σ H _ ⟨F, env, hP, E, set_contF rfl c⟩
        | _ => cases k3
      | _ => cases k6
  · cases k
theorem s_asg {t : List Nat} {a : IE} {s : Stmt} (g : GoodS S P n C G sc X W) (k : chkS S sc (.asg t a) s = true) : PS X s (tS C G B P W (.asg t a)) := by
  unfold chkS at k
  split at k
  · rename_i es kk p e pos
    simp only [Bool.and_eq_true, Bool.not_eq_true'] at k
    obtain ⟨⟨⟨k1, k2⟩, k3⟩, k4⟩ := k
    have pg := pg_of g.g.calm g.g.hN g.hs g.g.nd (fun _ => g.hf) k1
    refine ps_of (ps_asg ((snd a e sc X W g.g g.hs g.tk).1 k2) pg (sole_no k3) (stores_no k4) rfl) fun De σ H ⟨F, env, hP, E, c⟩ => ?_
    simp only [ex] at c
    refine ⟨F, env, hP, E, (ContS.toV c).mono fun v H1 ⟨d, e1, E1, A1, r1, c1⟩ => ?_⟩
    cases hb : bindT t d e1 with
    | none => rw [hb] at c1; exact (show False from c1).elim
    | some e2 =>
      rw [hb] at c1
      have q := g_ok F σ H1 e1 e2 v d De.nx E1 r1 hb fun σ' E2 A2 _ => c1 σ' H1 E2 A2
      rw [hP, ← g.g.hK] at q
      exact q
  · cases k
theorem s_par {i j : Nat} {a b : IE} {s : Stmt} (g : GoodS S P n C G sc X W) (k : chkS S sc (.par i j a b) s = true) : PS X s (tS C G B P W (.par i j a b)) := by
  unfold chkS at k
  split at k
  · rename_i x px y py k1 p1 e1 e2 k2 p2 pos
    simp only [Bool.and_eq_true, Bool.not_eq_true', decide_eq_true_eq] at k
    obtain ⟨⟨⟨⟨⟨⟨⟨⟨⟨⟨⟨⟨z1, z2⟩, z3⟩, z4⟩, z5⟩, z6⟩, z7⟩, z8⟩, z9⟩, z10⟩, z11⟩, z12⟩, z13⟩ := k
    have hx : sc.names.lookup x = some .local := by
      split at z5
      · assumption
      · cases z5
    have hy : sc.names.lookup y = some .local := by
      split at z6
      · assumption
      · cases z6
    have pa : PA X [e1, e2] _ := pa_cons ((snd a e1 sc X W g.g g.hs g.tk).1 z12) (pa_cons ((snd b e2 sc X W g.g g.hs g.tk).1 z13) pa_nil (starEach_ns z11)) (starEach_ns z10)
    refine ps_of (ps_par g.g.calm (by rw [g.g.hN]; exact g.g.nd) (by rw [g.g.hN]; exact z1) (by rw [g.g.hN]; exact z2) z3 (by rw [g.hs]; exact hx) (by rw [g.hs]; exact hy) pa (stores_par g.hs g.hk hx hy z4 z7 z8 z9 z10 z11) rfl) fun De σ H ⟨F, env, hP, E, c⟩ => ?_
    simp only [ex] at c
    refine ⟨F, env, hP, E, (ContS.toV c).mono fun v H1 ⟨d, e1, E1, A1, r1, c1⟩ => ⟨F, e1, hP, E1, (ContS.toV c1).mono fun w H2 ⟨d', e2, E2, A2, r2, c2⟩ => ?_⟩⟩
    split at c2
    · rename_i hh
      refine ⟨v, w, rfl, ?_⟩
      have r1' := E1.stay A2 r1
      have E3 : EnvOk F (σ.set i (some v)) H2 (e2.set i (.im d)) := E2.put rfl fun d'' e => by
        cases e
        exact ⟨v, rfl, E2.stay (Adv.put rfl) r1'⟩
      have A3 : Adv σ e2 H2 (σ.set i (some v)) (e2.set i (.im d)) H2 := Adv.put rfl
      have E4 : EnvOk F ((σ.set i (some v)).set j (some w)) H2 ((e2.set i (.im d)).set j (.im d')) := E3.put rfl fun d'' e => by
        cases e
        exact ⟨w, rfl, E2.stay (A3.trans (Adv.put rfl)) r2⟩
      exact c2 _ _ E4 (A3.trans (Adv.put rfl))
    · exact (show False from c2).elim
  · cases k
theorem gets_some {F : Frm} {σ : L2.St} {H : Hp} {env : Env} {i : Nat} (E : EnvOk F σ H env) (h : ¬ (gets env i).isNone = true) : ∃ v, σ[i]? = some (some v) := by
  cases q : gets env i with
  | none => rw [q] at h; exact absurd rfl h
  | some d =>
    unfold gets at q
    cases q1 : env[i]? with
    | none => rw [q1] at q; cases q
    | some s =>
      cases s with
      | no => rw [q1] at q; cases q
      | im d' =>
        obtain ⟨v, h1, _⟩ := E.im i d' q1
        exact ⟨v, h1⟩
      | ow m d' =>
        obtain ⟨a, vs, ds, _, h1, _⟩ := E.ow i m d' q1
        exact ⟨_, h1⟩
theorem assign_sub {o i : Expr} {pos : Pos} {env : PySem.Env} (h : plainIxB i = true) (v : Value) : assign (.Subscript o i pos) env v = (do
      let ov ← holding [v] (eval o env)
      let iv ← holding [v, ov] (eval i env)
      standAt pos
      holding [v, ov, iv] (setItem ov iv v)
      release [v, ov, iv] []) := by
  cases i with
  | Slice _ _ _ _ => cases h
  | _ => rfl
theorem s_setix {i : Nat} {a b : IE} {s : Stmt} (g : GoodS S P n C G sc X W) (k : chkS S sc (.setix i b a) s = true) : PS X s (tS C G B P W (.setix i b a)) := by
  unfold chkS at k
  split at k
  · rename_i x px y p1 e pos
    simp only [Bool.and_eq_true, Bool.not_eq_true'] at k
    obtain ⟨⟨⟨⟨k1, k2⟩, k3⟩, k4⟩, k5⟩ := k
    obtain ⟨m1, m2, m3, m4⟩ := nm_of k1
    have pv : PE X (.Name x px) (tVar i) := pe_var (by rw [g.g.hN]; exact m1) (by rw [g.hs]; exact m2) m3 m4
    refine ps_of (ps_asg ((snd a e sc X W g.g g.hs g.tk).1 k4) (pg_sub pv ((snd b y sc X W g.g g.hs g.tk).1 k5) set_list (assign_sub k2)) (sole_no k3) rfl rfl) fun De σ H ⟨F, env, hP, E, c⟩ => ?_
    simp only [ex] at c
    refine ⟨F, env, hP, E, (ContS.toV c).mono fun v H1 ⟨d, e1, E1, A1, r1, c1⟩ => ?_⟩
    split at c1
    · exact (show False from c1).elim
    rename_i hn
    obtain ⟨l0, hl0⟩ := gets_some E1 hn
    refine ⟨l0, hl0, F, e1, hP, E1, (ContS.toV c1).mono fun w H2 ⟨z, e2, E2, A2, r2, c2⟩ => ?_⟩
    split at c2
    · rename_i m ds zz q
      obtain ⟨l, vs, es, z0, z1, z2, z3, z4⟩ := E2.ow i _ _ q
      cases z0
      rw [hl0] at z1
      cases z1
      obtain rfl := (show w = V.int _ from r2)
      split at c2
      · exact (show False from c2).elim
      rename_i n' hn'
      refine ⟨l, vs, _, n', rfl, rfl, z2, ?_, ?_⟩
      · rw [z3.length]; exact hn'
      · have r1' := E1.stay A2 r1
        have oa : Av F σ e2 l := .inr ⟨i, m, _, q, hl0⟩
        have rr : Rps F.P (upd H2 l (.lst (vs.set n' v))) (Av F σ e2) (vs.set n' v) (ds.set n' d) := (rps_poke z2 oa z3).set n' (rp_poke z2 oa r1')
        obtain ⟨E3, A3⟩ := E2.change q hl0 (fun b o nb h => by rw [upd_ne nb]; exact h) upd_same rr
        exact c2 _ _ E3 A3
    · exact (show False from c2).elim
  · cases k
theorem s_app {i : Nat} {a : IE} {s : Stmt} (g : GoodS S P n C G sc X W) (k : chkS S sc (.app i a) s = true) : PS X s (tS C G B P W (.app i a)) := by
  unfold chkS at k
  split at k
  · rename_i x px m ap e cp pos
    simp only [Bool.and_eq_true, decide_eq_true_eq] at k
    obtain ⟨⟨⟨⟨rfl, k2⟩, k3⟩, k4⟩, k5⟩ := k
    obtain ⟨m1, m2, m3, m4⟩ := nm_of k3
    have pv : PE X (.Name x px) (tVar i) := pe_var (by rw [g.g.hN]; exact m1) (by rw [g.hs]; exact m2) m3 m4
    have se := starEach_ns (xs := []) (env := X.env) k4
    refine ps_of (ps_expr (pe_bm PySem.F.plainAttrs_list PySem.F.slot_list_append PySem.F.type_list_append mt_append pv (pa_cons ((snd a e sc X W g.g g.hs g.tk).1 k5) pa_nil se) rfl (by rw [se]; rfl) k2 se rfl) rfl) fun De σ H ⟨F, env, hP, E, c⟩ => ?_
    simp only [ex] at c
    split at c
    · rename_i mm d0 q0
      obtain ⟨l, vs, es, z0, z1, z2, z3, z4⟩ := E.ow i _ _ q0
      refine ⟨_, z1, .inl ⟨rfl, _, .inl (.inl z2)⟩, F, env, hP, E, (ContS.toV c).mono fun v H1 ⟨d, e1, E1, A1, r1, c1⟩ => ?_⟩
      split at c1
      · rename_i m2 ds q
        obtain ⟨l', vs', es', y0, y1, y2, y3, y4⟩ := E1.ow i _ _ q
        cases y0
        rw [z1] at y1
        cases y1
        split at c1
        · rename_i hz
          have hs : (sizeLine : Nat) = 16777216 := sizeLine_eq
          refine ⟨l, vs', v, rfl, rfl, y2, by rw [y3.length, hs]; exact hz, ?_⟩
          have oa : Av F σ e1 l := .inr ⟨i, _, _, q, z1⟩
          have rr : Rps F.P (upd H1 l (.lst (vs' ++ [v]))) (Av F σ e1) (vs' ++ [v]) (ds ++ [d]) := (rps_poke y2 oa y3).app ⟨v, [], rfl, rp_poke y2 oa r1, rfl⟩
          obtain ⟨E3, A3⟩ := E1.change q z1 (fun b o nb h => by rw [upd_ne nb]; exact h) upd_same rr
          exact c1 _ _ E3 A3
        · exact (show False from c1).elim
      · exact (show False from c1).elim
    · exact (show False from c).elim
  · cases k
theorem s_ex {a : IE} {s : Stmt} (g : GoodS S P n C G sc X W) (k : chkS S sc (.ex a) s = true) : PS X s (tS C G B P W (.ex a)) := by
  unfold chkS at k
  split at k
  · simp only [Bool.and_eq_true, Bool.not_eq_true'] at k
    refine ps_of (ps_expr ((snd a _ sc X W g.g g.hs g.tk).1 k.2) (swaps_no k.1)) fun De σ H ⟨F, env, hP, E, c⟩ => ?_
    simp only [ex] at c
    exact ⟨F, env, hP, E, (ContS.toS (R := RPd F σ) c).mono fun v H1 ⟨d, e1, E1, A1, r1, c1⟩ => c1 _ _ E1 Adv.refl⟩
  · cases k
theorem s_ret {a : IE} {s : Stmt} (g : GoodS S P n C G sc X W) (k : chkS S sc (.ret a) s = true) : PS X s (tS C G B P W (.ret a)) := by
  unfold chkS at k
  split at k
  · rename_i e pos
    by_cases hv : ∃ i, a = .var i
    · obtain ⟨i, rfl⟩ := hv
      simp only [chk] at k
      split at k
      · rename_i x p
        obtain ⟨h1, h2, h3, h4⟩ := nm_of k
        refine ps_of (ps_ret (pe_var (i := i) (by rw [g.g.hN]; exact h1) (by rw [g.hs]; exact h2) h3 h4)) fun De σ H ⟨F, env, hP, E, c⟩ => ?_
        simp only [ex, ev, ownV] at c
        split at c
        · rename_i d q
          obtain ⟨v, z1, z2⟩ := E.im i d q
          refine ⟨v, z1, c v σ H E Adv.refl ⟨z2, fun z => ?_⟩⟩
          simp only [freshB, q, Bool.or_false, Bool.and_false] at z
          cases z
        · rename_i d q
          obtain ⟨E', A', v, z1, z2⟩ := E.drop q
          refine ⟨v, z1, c v σ H E' A' ⟨z2, fun z => ?_⟩⟩
          obtain ⟨l, vs, ds, y0, y1, y2, y3, y4, y5⟩ := E.ow i false d q
          rw [z1] at y1
          cases y1
          refine ⟨l, vs, ds, rfl, y0, y2, (y4 rfl).1, Rps.imp (fun _ _ q => q) (fun b _ n q => ⟨fun w => n ?_, q⟩) y3⟩
          rcases w with w | w
          · exact .inl w
          · rw [w]; exact .inr ⟨i, _, _, by assumption, z1⟩
        · exact (show False from c).elim
      · cases k
    · have ho : ∀ env, ownV a env = false := fun env => by
        cases a with
        | var i => exact absurd ⟨i, rfl⟩ hv
        | _ => rfl
      cases hf : freshB a with
      | false =>
        refine ps_of (ps_ret ((snd a _ sc X W g.g g.hs g.tk).1 k)) fun De σ H ⟨F, env, hP, E, c⟩ => ?_
        simp only [ex, hf, ho, Bool.or_false, Bool.and_false] at c
        exact ⟨F, env, hP, E, (ContS.toV c).mono fun v H1 ⟨d, e1, E1, A1, r1, c1⟩ => c1 v _ _ E1 Adv.refl ⟨r1, fun z => by cases z⟩⟩
      | true =>
        refine ps_of (ps_ret (sndF hf g.g g.hs g.tk k)) fun De σ H ⟨F, env, hP, E, c⟩ => ?_
        simp only [ex, hf, Bool.true_or, Bool.and_true] at c
        refine ⟨F, env, hP, E, (ContS.toVF c).mono fun v H1 ⟨d, e1, E1, A1, r1, c1⟩ => c1 v _ _ E1 Adv.refl ⟨RFr.pd r1, fun z => ?_⟩⟩
        cases d with
        | lst ds =>
          obtain ⟨l, vs, rfl, _, y1, y2, y3, y4, y5⟩ := r1
          exact ⟨l, vs, ds, rfl, rfl, y1, y2, Rps.imp (fun _ _ q => q) (fun b _ n q => ⟨fun w => n (.inl w), q⟩) y5⟩
        | _ => cases z
  · cases k
theorem s_retn {s : Stmt} (g : GoodS S P n C G sc X W) (k : chkS S sc .retn s = true) : PS X s (tS C G B P W .retn) := by
  unfold chkS at k
  split at k
  · refine ps_of ps_retN fun De σ H ⟨F, env, hP, E, c⟩ => ?_
    simp only [ex] at c
    exact c .non σ H E Adv.refl ⟨rfl, fun z => by cases z⟩
  · cases k
theorem s_iff {c : IE} {a b : List IS} {e : Expr} {x y : List Stmt} {pos : Pos} (g : GoodS S P n C G sc X W) (hc : chk S sc true c e = true) (ha : PSs X x (tSs C G B P W a)) (hb : PSs X y (tSs C G B P W b)) : PS X (.If e x y pos) (tS C G B P W (.iff c a b)) := by
  refine ps_of (ps_if ((snd c e sc X W g.g g.hs g.tk).2 hc) ha hb) fun De σ H ⟨F, env, hP, E, k⟩ => ?_
  simp only [ex] at k
  refine ⟨F, env, hP, E, (ContS.toS k).mono fun t H1 ⟨t', e1, E1, A1, r1, c1⟩ => ?_⟩
  obtain rfl := (show t = t' from r1)
  cases t with
  | true => exact iteT ⟨F, e1, hP, E1, c1⟩
  | false => exact iteF ⟨F, e1, hP, E1, c1⟩
theorem s_whl {c : IE} {b : List IS} {e : Expr} {x : List Stmt} {pos : Pos} (g : GoodS S P n C G sc X W) (hc : chk S sc true c e = true) (hb : PSs X x (tSs C G B P W b)) : PS X (.While e x [] pos) (tS C G B P W (.whl c b)) := by
  refine ps_of (ps_while g.hp ((snd c e sc X W g.g g.hs g.tk).2 hc) hb) fun De σ H ⟨F, env, hP, E, k⟩ => ?_
  simp only [ex] at k
  refine ⟨fun m σ' H' => ∃ env', EnvOk F σ' H' env' ∧ ContS F W σ' H' env' De (whlL (fun e => evT C G c e) (fun e => exs C G B b e) m env'), ⟨B, env, E, k⟩, ?_⟩
  rintro m σ1 H1 ⟨e1, E1, k1⟩
  cases m with
  | zero => exact (show False from k1).elim
  | succ m =>
    unfold whlL at k1
    refine ⟨F, e1, hP, E1, (ContS.toS k1).mono fun t H2 ⟨t', e2, E2, A2, r2, c2⟩ => ?_⟩
    obtain rfl := (show t = t' from r2)
    cases t with
    | false => exact iteF (c2 _ _ E2 Adv.refl)
    | true =>
      refine iteT ⟨fun σ' H' => ∃ env', EnvOk F σ' H' env' ∧ ContS F W σ' H' env' De (whlL (fun e => evT C G c e) (fun e => exs C G B b e) m env'), fun σ' H' w => ⟨m, Nat.lt_succ_self m, w⟩, F, e2, hP, E2, ?_⟩
      have c2 : ContS F W σ1 H2 e2 De (match exs C G B b e2 with
        | .nx e' => whlL (fun e => evT C G c e) (fun e => exs C G B b e) m e'
        | .ct e' => whlL (fun e => evT C G c e) (fun e => exs C G B b e) m e'
        | .bk e' => .nx e'
        | m => m) := c2
      cases hx : exs C G B b e2 with
      | nx e' => rw [hx] at c2; exact fun σ3 H3 E3 A3 => ⟨e', E3, ContS.shift c2 A3⟩
      | ct e' => rw [hx] at c2; exact fun σ3 H3 E3 A3 => ⟨e', E3, ContS.shift c2 A3⟩
      | bk e' => rw [hx] at c2; exact fun σ3 H3 E3 A3 => c2 σ3 H3 E3 A3
      | rt d fr e' => rw [hx] at c2; exact c2
      | exc xx e' => rw [hx] at c2; exact c2
      | bad => rw [hx] at c2; exact c2
/-- the turns of a for, over what stands -/
theorem for_main {t : List Nat} {b : Env → FR} {ys : List D} {F : Frm} {σ : L2.St} {H : Hp} {env : Env} {De : Ends} {tb : TS} (E : EnvOk F σ H env) (k : ContS F W σ H env De (forL t b ys env))
    (htb : ∀ (De : Ends) (σ : L2.St) (H : Hp) (env : Env), EnvOk F σ H env → ContS F W σ H env De (b env) → tb De σ H) :
    ∃ Pv : Nat → L2.St → Hp → Prop, Pv 0 σ H ∧ (∀ i σ' H', Pv i σ' H' → (∀ a vs, SqT F.P.K H a vs → SqT F.P.K H' a vs) ∧ (∀ a o, ¬ Av F σ env a → H a = some o → H' a = some o)) ∧
      (∀ i d v σ' H', ys[i]? = some d → Pv i σ' H' → Rp F.P H (Av F σ env) v d → gOf F.P.K t v σ' H' fun σ2 H2 => tb { De with nx := Pv (i + 1), ct := Pv (i + 1), bk := De.nx } σ2 H2) ∧
      (∀ σ' H', Pv ys.length σ' H' → De.nx σ' H') := by
  refine ⟨fun i σ' H' => ∃ e, EnvOk F σ' H' e ∧ Adv σ env H σ' e H' ∧ ContS F W σ' H' e De (forL t b (ys.drop i) e), ⟨env, E, Adv.refl, k⟩, ?_, ?_, ?_⟩
  · rintro i σ' H' ⟨e, E', A', _⟩
    exact ⟨fun a vs q => E.tupStay A' q, fun a o n q => (E.lstStay A' n q).2⟩
  · rintro i d v σ' H' hd ⟨e, E', A', c⟩ rv
    have hi : i < ys.length := (List.getElem?_eq_some_iff.mp hd).1
    have ed : ys.drop i = d :: ys.drop (i + 1) := by
      rw [List.drop_eq_getElem_cons hi]
      congr 1
      rw [List.getElem?_eq_getElem hi] at hd
      exact Option.some.inj hd
    rw [ed] at c
    unfold forL at c
    split at c
    · exact (show False from c).elim
    rename_i e1 hb
    refine g_ok F σ' H' e e1 v d _ E' (E.stay A' rv) hb fun σ2 E2 A2 _ => htb _ σ2 H' e1 E2 ?_
    have c := ContS.shift c A2
    have A02 := A'.trans A2
    cases hx : b e1 with
    | nx e' => rw [hx] at c; exact fun σ3 H3 E3 A3 => ⟨e', E3, A02.trans A3, ContS.shift c A3⟩
    | ct e' => rw [hx] at c; exact fun σ3 H3 E3 A3 => ⟨e', E3, A02.trans A3, ContS.shift c A3⟩
    | bk e' => rw [hx] at c; exact fun σ3 H3 E3 A3 => c σ3 H3 E3 A3
    | rt d fr e' => rw [hx] at c; exact c
    | exc xx e' => rw [hx] at c; exact c
    | bad => rw [hx] at c; exact c
  · rintro σ' H' ⟨e, E', A', c⟩
    rw [List.drop_length] at c
    exact c σ' H' E' Adv.refl
theorem src_tB {b : List IS} {F : Frm} (hP : F.P = P) : ∀ (De : Ends) (σ : L2.St) (H : Hp) (env : Env), EnvOk F σ H env → ContS F W σ H env De (exs C G B b env) → tSs C G B P W b De σ H := fun De σ H env E c => ⟨F, env, hP, E, c⟩
theorem s_forr {t : List Nat} {sk : SK} {ss : List IE} {b : List IS} {tg it : Expr} {x : List Stmt} {pos : Pos} (g : GoodS S P n C G sc X W) (k1 : tgB S sc true t tg = true) (k2 : noSet it = true)
    (k3 : (match sk with
        | .seq => (match ss with
          | [a] => chk S sc false a it
          | _ => false)
        | .rng1 => (match isRange sc it with
          | some ys => ys.length == 1 && chkL S sc ss ys
          | none => false)
        | .rng2 => (match isRange sc it with
          | some ys => ys.length == 2 && chkL S sc ss ys
          | none => false)) = true) (hb : PSs X x (tSs C G B P W b)) : PS X (.For tg it x [] pos) (tS C G B P W (.forr t sk ss b)) := by
  have pg := pg_of g.g.calm g.g.hN g.hs g.g.nd (fun _ => g.hf) k1
  have fold := folded_of (env := X.env) k2
  have hK := g.g.hK
  cases sk with
  | seq =>
    cases ss with
    | nil => cases k3
    | cons a r =>
      cases r with
      | cons _ _ => cases k3
      | nil =>
        have na : ∀ z, a ≠ .star z := fun z e => by rw [e] at k3; cases k3
        refine ps_of (ps_for g.hp g.g.calm (pi_any ((snd a it sc X W g.g g.hs g.tk).1 k3)) pg hb fold) fun De σ H ⟨F, env, hP, E, k⟩ => ?_
        simp only [ex, srcE] at k
        rw [evL_cons na, Out.assocV] at k
        have k : ContS F W σ H env De ((ev C G a env).toV fun d e1 => (match items .seq [d] with
          | none => (.bad : Out (List D))
          | some ys => .ok ys e1).toS fun ys e => if ys.length ≤ SL then forL t (fun e => exs C G B b e) ys e else .bad) := by
          revert k
          cases ev C G a env with
          | ok p e => cases p <;> exact fun k => k
          | exc xx e => exact fun k => k
          | bad => exact fun k => k
        refine ⟨F, env, hP, E, (ContS.toV k).mono fun v H1 ⟨d, e1, E1, A1, r1, c1⟩ => ?_⟩
        have hK' : F.P.K = X.K := by rw [hP, hK]
        have fin : ∀ {ys : List D}, items .seq [d] = some ys → ContS F W σ H1 e1 De (forL t (fun e => exs C G B b e) ys e1) := fun {ys} hi => by
          rw [hi] at c1
          have c1 : ContS F W σ H1 e1 De (if ys.length ≤ SL then forL t (fun e => exs C G B b e) ys e1 else .bad) := c1
          split at c1
          · exact c1
          · exact (show False from c1).elim
        cases d with
        | lst ds =>
          obtain ⟨l, vs, rfl, n1, q1, q2⟩ := r1
          refine ⟨l, rfl, .inl ⟨⟨vs, .inl (.inl q1)⟩, ?_⟩⟩
          obtain ⟨Pv, p0, pl, ps, pe⟩ := for_main E1 (fin rfl) (src_tB hP)
          rw [hK'] at ps
          have el : vs.length = ds.length := q2.length
          refine for_list (K := X.K) (a := l) (xs := vs) Pv p0 (fun i σ' H' hi p => .inl (.inl ((pl i σ' H' p).2 l _ n1 q1))) (fun i v σ' H' hv p => ?_) (fun σ' H' p => pe σ' H' (by rw [← el]; exact p))
          have hi := (List.getElem?_eq_some_iff.mp hv).1
          obtain ⟨w, hw, rw_⟩ := q2.get (i := i) (d := ds[i]'(by omega)) (List.getElem?_eq_getElem (by omega))
          rw [hv] at hw
          cases hw
          exact ps i _ v σ' H' (List.getElem?_eq_getElem (by omega)) p rw_
        | tup ds =>
          obtain ⟨l, vs, rfl, q1, q2⟩ := r1
          refine ⟨l, rfl, .inr ⟨⟨vs, by rw [← hK']; exact q1⟩, ?_⟩⟩
          obtain ⟨Pv, p0, pl, ps, pe⟩ := for_main E1 (fin rfl) (src_tB hP)
          rw [hK'] at ps
          have el : vs.length = ds.length := q2.length
          refine for_tup (K := X.K) (a := l) (xs := vs) Pv p0 (fun i σ' H' hi p => by rw [← hK']; exact (pl i σ' H' p).1 l _ q1) (fun i v σ' H' hv p => ?_) (fun σ' H' p => pe σ' H' (by rw [← el]; exact p))
          have hi := (List.getElem?_eq_some_iff.mp hv).1
          obtain ⟨w, hw, rw_⟩ := q2.get (i := i) (d := ds[i]'(by omega)) (List.getElem?_eq_getElem (by omega))
          rw [hv] at hw
          cases hw
          exact ps i _ v σ' H' (List.getElem?_eq_getElem (by omega)) p rw_
        | scr ns =>
          obtain ⟨l, rfl, q1⟩ := r1
          have st : ∀ H', (∀ a o, ¬ Av F σ e1 a → H1 a = some o → H' a = some o) → SqL X.K H' l (ns.map V.int) := fun H' h => by
            rcases q1 with ⟨n, q1⟩ | q1
            · rcases q1 with q1 | ⟨o, q1⟩
              · exact .inl (.inl (h _ _ n q1))
              · exact .inl (.inr ⟨o, h _ _ n q1⟩)
            · rw [← hK']; exact q1 H'
          refine ⟨l, rfl, .inl ⟨⟨_, st H1 fun _ _ _ h => h⟩, ?_⟩⟩
          obtain ⟨Pv, p0, pl, ps, pe⟩ := for_main E1 (fin rfl) (src_tB hP)
          rw [hK'] at ps
          have el : (ns.map V.int).length = (ns.map D.int).length := by simp
          refine for_list (K := X.K) (a := l) (xs := ns.map V.int) Pv p0 (fun i σ' H' hi p => st H' (pl i σ' H' p).2) (fun i v σ' H' hv p => ?_) (fun σ' H' p => pe σ' H' (by rw [← el]; exact p))
          rw [List.getElem?_map] at hv
          cases hn : ns[i]? with
          | none => rw [hn] at hv; cases hv
          | some z =>
            rw [hn] at hv
            cases hv
            exact ps i (.int z) _ σ' H' (by rw [List.getElem?_map, hn]; rfl) p rfl
        | _ => exact (show False from c1).elim
  | rng1 =>
    cases hr : isRange sc it with
    | none => rw [hr] at k3; cases k3
    | some ys =>
      rw [hr] at k3
      simp only [Bool.and_eq_true, beq_iff_eq] at k3
      obtain ⟨p, pos2, rfl, r2, r3⟩ := range_of hr
      match ys, k3 with
      | [y], k3 =>
        simp only [List.all_cons, Bool.and_eq_true] at r3
        refine ps_of (ps_for g.hp g.g.calm (pi_range1 (gl_of g.hs r2) (g.g.blt "range" (by simp)) (sndL _ _ sc X W g.g g.hs g.tk k3.2) (starEach_ns r3.1)) pg hb fold) fun De σ H ⟨F, env, hP, E, k⟩ => ?_
        simp only [ex, srcE] at k
        have k : ContS F W σ H env De ((evL C G ss env).toS fun ds e1 => (match items .rng1 ds with
          | none => (.bad : Out (List D))
          | some ys => .ok ys e1).toS fun ys e => if ys.length ≤ SL then forL t (fun e => exs C G B b e) ys e else .bad) := by
          revert k
          cases evL C G ss env <;> exact fun k => k
        refine ⟨F, env, hP, E, (ContS.toS (R := RLs F σ) k).mono fun vs H1 ⟨ds, e1, E1, A1, r1, c1⟩ => ?_⟩
        have hK' : F.P.K = X.K := by rw [hP, hK]
        cases hi : items .rng1 ds with
        | none => rw [hi] at c1; exact (show False from c1).elim
        | some ys =>
          rw [hi] at c1
          have c1 : ContS F W σ H1 e1 De (if ys.length ≤ SL then forL t (fun e => exs C G B b e) ys e1 else .bad) := c1
          split at c1
          · obtain ⟨n, rfl, h1, h2, rfl⟩ := items_rng1 hi
            obtain ⟨v, r, rfl, rv, rfl⟩ := r1
            obtain rfl := (show v = V.int n from rv)
            refine ⟨n, rfl, h1, by omega, ?_⟩
            obtain ⟨Pv, p0, pl, ps, pe⟩ := for_main E1 c1 (src_tB hP)
            rw [hK'] at ps
            exact for_range (lo := 0) (n := n.toNat) Pv p0 (fun i σ' H' hlt p => ps i _ _ σ' H' (upFrom_get _ _ _ hlt) p rfl) fun σ' H' p => pe σ' H' (by rw [upFrom_len]; exact p)
          · exact (show False from c1).elim
      | [], k3 => cases k3.1
      | _ :: _ :: _, k3 => cases k3.1
  | rng2 =>
    cases hr : isRange sc it with
    | none => rw [hr] at k3; cases k3
    | some ys =>
      rw [hr] at k3
      simp only [Bool.and_eq_true, beq_iff_eq] at k3
      obtain ⟨p, pos2, rfl, r2, r3⟩ := range_of hr
      match ys, k3 with
      | [y, z], k3 =>
        simp only [List.all_cons, Bool.and_eq_true] at r3
        refine ps_of (ps_for g.hp g.g.calm (pi_range2 (gl_of g.hs r2) (g.g.blt "range" (by simp)) (sndL _ _ sc X W g.g g.hs g.tk k3.2) (by rw [starEach_ns r3.1, starEach_ns r3.2.1]; rfl) (by rw [starEach_ns r3.2.1]; rfl)) pg hb fold) fun De σ H ⟨F, env, hP, E, k⟩ => ?_
        simp only [ex, srcE] at k
        have k : ContS F W σ H env De ((evL C G ss env).toS fun ds e1 => (match items .rng2 ds with
          | none => (.bad : Out (List D))
          | some ys => .ok ys e1).toS fun ys e => if ys.length ≤ SL then forL t (fun e => exs C G B b e) ys e else .bad) := by
          revert k
          cases evL C G ss env <;> exact fun k => k
        refine ⟨F, env, hP, E, (ContS.toS (R := RLs F σ) k).mono fun vs H1 ⟨ds, e1, E1, A1, r1, c1⟩ => ?_⟩
        have hK' : F.P.K = X.K := by rw [hP, hK]
        cases hi : items .rng2 ds with
        | none => rw [hi] at c1; exact (show False from c1).elim
        | some ys =>
          rw [hi] at c1
          have c1 : ContS F W σ H1 e1 De (if ys.length ≤ SL then forL t (fun e => exs C G B b e) ys e1 else .bad) := c1
          split at c1
          · obtain ⟨i, j, rfl, hbd, rfl⟩ := items_rng2 hi
            obtain ⟨v, r, rfl, rv, w, r', rfl, rw_, rfl⟩ := r1
            obtain rfl := (show v = V.int i from rv)
            obtain rfl := (show w = V.int j from rw_)
            refine ⟨i, j, rfl, hbd, ?_⟩
            obtain ⟨Pv, p0, pl, ps, pe⟩ := for_main E1 c1 (src_tB hP)
            rw [hK'] at ps
            exact for_range (lo := i) (n := (j - i).toNat) Pv p0 (fun k σ' H' hlt p => ps k _ _ σ' H' (upFrom_get _ _ _ hlt) p rfl) fun σ' H' p => pe σ' H' (by rw [upFrom_len]; exact p)
          · exact (show False from c1).elim
      | [], k3 => cases k3.1
      | [_], k3 => cases k3.1
      | _ :: _ :: _ :: _, k3 => cases k3.1
def SndS (S : CK) (P : Pg) (n : Nat) (C : Orc) (G : List D) (B : Nat) (sc : Scope) (s : IS) : Prop := ∀ (X : Cx) (W : WX) (st : Stmt), GoodS S P n C G sc X W → chkS S sc s st = true → PS X st (tS C G B P W s)
def SndSs (S : CK) (P : Pg) (n : Nat) (C : Orc) (G : List D) (B : Nat) (sc : Scope) (s : List IS) : Prop := ∀ (X : Cx) (W : WX) (st : List Stmt), GoodS S P n C G sc X W → chkSs S sc s st = true → PSs X st (tSs C G B P W s)
theorem d_iff {c : IE} {a b : List IS} (ha : SndSs S P n C G B sc a) (hb : SndSs S P n C G B sc b) : SndS S P n C G B sc (.iff c a b) := fun X W st g k => by
  unfold chkS at k
  split at k
  · simp only [Bool.and_eq_true] at k
    exact s_iff g k.1.1 (ha X W _ g k.1.2) (hb X W _ g k.2)
  · cases k
theorem d_whl {c : IE} {b : List IS} (hb : SndSs S P n C G B sc b) : SndS S P n C G B sc (.whl c b) := fun X W st g k => by
  unfold chkS at k
  split at k
  · simp only [Bool.and_eq_true] at k
    exact s_whl g k.1 (hb X W _ g k.2)
  · cases k
theorem d_forr {t : List Nat} {sk : SK} {ss : List IE} {b : List IS} (hb : SndSs S P n C G B sc b) : SndS S P n C G B sc (.forr t sk ss b) := fun X W st g k => by
  unfold chkS at k
  split at k
  · simp only [Bool.and_eq_true] at k
    exact s_forr g k.1.1.1 k.1.1.2 k.1.2 (hb X W _ g k.2)
  · cases k
theorem d_pass : SndS S P n C G B sc .pass := fun X W st g k => by
  unfold chkS at k
  split at k
  · refine ps_of ps_pass fun De σ H ⟨F, env, hP, E, c⟩ => ?_
    simp only [ex] at c
    exact c σ H E Adv.refl
  · cases k
theorem d_brk : SndS S P n C G B sc .brk := fun X W st g k => by
  unfold chkS at k
  split at k
  · refine ps_of ps_break fun De σ H ⟨F, env, hP, E, c⟩ => ?_
    simp only [ex] at c
    exact c σ H E Adv.refl
  · cases k
theorem d_cont : SndS S P n C G B sc .cont := fun X W st g k => by
  unfold chkS at k
  split at k
  · refine ps_of ps_continue fun De σ H ⟨F, env, hP, E, c⟩ => ?_
    simp only [ex] at c
    exact c σ H E Adv.refl
  · cases k
theorem d_never : SndS S P n C G B sc .never := fun X W st g k => by
  refine ps_of ps_never fun De σ H ⟨F, env, hP, E, c⟩ => ?_
  simp only [ex] at c
  exact c
theorem d_nil : SndSs S P n C G B sc [] := fun X W st g k => by
  cases st with
  | nil =>
    refine pss_of pss_nil fun De σ H ⟨F, env, hP, E, c⟩ => ?_
    simp only [exs] at c
    exact c σ H E Adv.refl
  | cons _ _ => cases k
theorem d_cons {a : IS} {r : List IS} (ha : SndS S P n C G B sc a) (hr : SndSs S P n C G B sc r) : SndSs S P n C G B sc (a :: r) := fun X W st g k => by
  cases st with
  | nil => cases k
  | cons x y =>
    simp only [chkSs, Bool.and_eq_true] at k
    refine pss_of (pss_cons (ha X W x g k.1) (hr X W y g k.2)) fun De σ H ⟨F, env, hP, E, c⟩ => ?_
    simp only [exs] at c
    exact ⟨F, env, hP, E, (ContS.seq c).ends (fun σ1 H1 ⟨e1, E1, A1, c1⟩ => ⟨F, e1, hP, E1, c1⟩) (fun _ _ h => h) (fun _ _ h => h) (fun _ _ h => h)⟩
mutual
theorem sndS : ∀ s : IS, SndS S P n C G B sc s
  | .set i a => fun X W st g k => s_set g k
  | .asg t a => fun X W st g k => s_asg g k
  | .par i j a b => fun X W st g k => s_par g k
  | .setix i a b => fun X W st g k => s_setix g k
  | .app i a => fun X W st g k => s_app g k
  | .ex a => fun X W st g k => s_ex g k
  | .ret a => fun X W st g k => s_ret g k
  | .retn => fun X W st g k => s_retn g k
  | .iff c a b => d_iff (sndSs a) (sndSs b)
  | .whl c b => d_whl (sndSs b)
  | .forr t sk ss b => d_forr (sndSs b)
  | .pass => d_pass
  | .brk => d_brk
  | .cont => d_cont
  | .never => d_never
theorem sndSs : ∀ s : List IS, SndSs S P n C G B sc s
  | [] => d_nil
  | a :: r => d_cons (sndS a) (sndSs r)
end
end
end TT

set_option maxHeartbeats 4000000
namespace TT
open PySem L2 PySem.Spec PyProof.Rows

/-! ### defs -/
structure FI where
  N : List Str
  np : Nat
  kd : DK
  body : List IS
def blanks (n : Nat) : Env := List.replicate n .no
def outM (d : D) (e : Env) : CR := match e[(0 : Nat)]? with
  | some (.ow true d1) => .ok d d1
  | _ => .bad
def callF (C : Orc) (G : List D) (B : Nat) (fi : FI) (ds : List D) : CR :=
  if ds.length = fi.np then
    match fi.kd with
    | .mutd => match ds with
      | .lst d0 :: r => match exs C G B fi.body (.ow true (.lst d0) :: (r.map .im ++ blanks (fi.N.length - fi.np))) with
        | .rt d _ e => outM d e
        | .nx e => outM .non e
        | _ => .bad
      | _ => .bad
    | .frsh => match exs C G B fi.body (ds.map .im ++ blanks (fi.N.length - fi.np)) with
      | .rt d true _ => .ok d .non
      | .exc x _ => .exc x
      | _ => .bad
    | _ => match exs C G B fi.body (ds.map .im ++ blanks (fi.N.length - fi.np)) with
      | .rt d _ _ => .ok d .non
      | .nx _ => .ok .non .non
      | .exc x _ => .exc x
      | _ => .bad
  else .bad
def run (T : List FI) (G : List D) (B : Nat) : Nat → Orc
  | 0, _, _ => .bad
  | n + 1, f, ds => match T[f]? with
    | none => .bad
    | some fi => callF (run T G B n) G B fi ds

/-- what the end tells of a def -/
structure FF (P : Program) (w : World) (K : PySem.W.Frag) (Pr : Pg) (S : CK) (f : Nat) (fi : FI) : Prop where
  ex : ∃ (x qual : Str) (st : Stmt) (fd : FuncData) (ps : List Str), Fun K x qual st (Pr.fa f) fd ∧ FnScope fi.N ps (defScope st) ∧ ps.length = fi.np ∧ chkSs { S with N := fi.N } (defScope st) fi.body (defBody st) = true ∧
    (match fi.kd with
      | .star => ∃ pv, ps = [pv] ∧ ∀ us : List Value, bindArgs fd ⟨us, []⟩ = (newTuple us >>= fun t => pure [(pv, t)])
      | _ => ∀ us : List Value, us.length = ps.length → bindArgs fd ⟨us, []⟩ = pure (ps.zip us))
/-- what the end tells of the module -/
structure ModOk (K : PySem.W.Frag) (mg : Str → Option Value) (Pr : Pg) (S : CK) (G : List D) : Prop where
  hK : K = Pr.K
  fns : ∀ (f : Nat) (x : Str), S.fn[f]? = some x → mg x = some (.ref (Pr.fa f)) ∧ PySem.W.keepIn K (.ref (Pr.fa f)) = true
  gcs : ∀ (k : Nat) (x : Str) (d : D), S.gc[k]? = some x → G[k]? = some d → ∃ v u, mg x = some u ∧ RelV v u ∧ flat d = true ∧ ∀ H A, Rp Pr H A v d
  blt : ∀ x : Str, x ∈ (["len", "int", "tuple", "list", "abs", "max", "min", "all", "any", "isinstance", "bool", "str", "range"] : List Str) → mg x = none
  gcd : mg ("gcd" : Str) = some (.builtin "math.gcd")

section
variable {P : Program} {w : World} {K : PySem.W.Frag} {mg : Str → Option Value} {base : Heap} {Pr : Pg} {S : CK} {G : List D} {T : List FI} {B : Nat}
def spK (Pr : Pg) (C : Orc) (k : DK) (f : Nat) : Sp := match k with
  | .plain => spO Pr C f
  | .mutd => spM Pr C f
  | .star => spS Pr C f
  | .frsh => spF Pr C f
theorem start_get {N : List Str} {vs : List V} {i : Nat} {v : V} (h : vs[i]? = some v) : (L2.start N vs)[i]? = some (some v) := by
  unfold L2.start
  have hi := (List.getElem?_eq_some_iff.mp h).1
  rw [List.getElem?_append_left (by simpa using hi), List.getElem?_map, h]
  rfl
/-- the slots at a plain entry -/
theorem env_start {N : List Str} {vs : List V} {ds : List D} {Z : Addr → Prop} {H : Hp} (hl : vs.length ≤ N.length) (r : Rps Pr H Z vs ds) (hz : ∀ a, Z a → H a ≠ none) :
    EnvOk ⟨Pr, H, Z, fun _ => False⟩ (L2.start N vs) H (ds.map .im ++ blanks (N.length - ds.length)) := by
  have el : vs.length = ds.length := r.length
  have no : ∀ (i : Nat) (m : Bool) (d : D), (ds.map Sl.im ++ blanks (N.length - ds.length))[i]? ≠ some (.ow m d) := fun i m d h => by
    by_cases hi : i < ds.length
    · rw [List.getElem?_append_left (by simpa using hi), List.getElem?_map] at h
      cases q : ds[i]? with
      | none => rw [q] at h; cases h
      | some d' => rw [q] at h; cases h
    · rw [List.getElem?_append_right (by simpa using hi)] at h
      unfold blanks at h
      rw [List.getElem?_replicate] at h
      split at h <;> cases h
  refine ⟨?_, fun i d h => ?_, fun i m d h => absurd h (no i m d), fun i j m n d e a h => absurd h (no i m d), hz, fun _ _ h _ => h, fun _ h => h.elim⟩
  · unfold L2.start blanks
    simp [el]
  · by_cases hi : i < ds.length
    · rw [List.getElem?_append_left (by simpa using hi), List.getElem?_map] at h
      cases q : ds[i]? with
      | none => rw [q] at h; cases h
      | some d' =>
        rw [q] at h
        cases h
        obtain ⟨v, h1, h2⟩ := r.get q
        refine ⟨v, start_get h1, Rp.imp (fun _ _ q => q) (fun a o n q => ⟨fun w => ?_, q⟩) h2⟩
        rcases w with w | ⟨j, m, d, q1, _⟩
        · exact n w
        · exact no j m d q1
    · rw [List.getElem?_append_right (by simpa using hi)] at h
      unfold blanks at h
      rw [List.getElem?_replicate] at h
      split at h <;> cases h
/-- .. where the first parameter changes -/
theorem env_startM {N : List Str} {a : Addr} {ws vs : List V} {es ds : List D} {Z : Addr → Prop} {H : Hp} (hl : (V.ref a :: vs).length ≤ N.length) (hH : H a = some (.lst ws)) (r0 : Rps Pr H Z ws es) (r : Rps Pr H Z vs ds) (hza : Z a) (hz : ∀ a, Z a → H a ≠ none) :
    EnvOk ⟨Pr, H, Z, fun b => b = a⟩ (L2.start N (V.ref a :: vs)) H (.ow true (.lst es) :: (ds.map .im ++ blanks (N.length - (ds.length + 1)))) := by
  have el : vs.length = ds.length := r.length
  have hl' : vs.length + 1 ≤ N.length := hl
  have ono : ∀ {i : Nat} {m : Bool} {d : D}, (Sl.ow true (.lst es) :: (ds.map Sl.im ++ blanks (N.length - (ds.length + 1))))[i]? = some (.ow m d) → i = 0 ∧ m = true ∧ d = .lst es := fun {i m d} h => by
    cases i with
    | zero => cases h; exact ⟨rfl, rfl, rfl⟩
    | succ i =>
      rw [List.getElem?_cons_succ] at h
      by_cases hi : i < ds.length
      · rw [List.getElem?_append_left (by simpa using hi), List.getElem?_map] at h
        cases q : ds[i]? with
        | none => rw [q] at h; cases h
        | some d' => rw [q] at h; cases h
      · rw [List.getElem?_append_right (by simpa using hi)] at h
        unfold blanks at h
        rw [List.getElem?_replicate] at h
        split at h <;> cases h
  have s0 : (L2.start N (V.ref a :: vs))[0]? = some (some (V.ref a)) := start_get rfl
  have oa : ∀ b, Ow (L2.start N (V.ref a :: vs)) (.ow true (.lst es) :: (ds.map .im ++ blanks (N.length - (ds.length + 1)))) b → b = a := fun b ⟨i, m, d, h1, h2⟩ => by
    obtain ⟨rfl, _, _⟩ := ono h1
    rw [s0] at h2
    cases h2
    rfl
  have dn : ∀ {v : V} {d : D}, Rp Pr H Z v d → Rp Pr H (Av ⟨Pr, H, Z, fun b => b = a⟩ (L2.start N (V.ref a :: vs)) (.ow true (.lst es) :: (ds.map .im ++ blanks (N.length - (ds.length + 1))))) v d := fun r =>
    Rp.imp (fun _ _ q => q) (fun b o n q => ⟨fun w => by
      rcases w with w | w
      · exact n w
      · rw [oa b w] at n; exact n hza, q⟩) r
  have dns : ∀ {v : List V} {d : List D}, Rps Pr H Z v d → Rps Pr H (Av ⟨Pr, H, Z, fun b => b = a⟩ (L2.start N (V.ref a :: vs)) (.ow true (.lst es) :: (ds.map .im ++ blanks (N.length - (ds.length + 1))))) v d := fun r =>
    Rps.imp (fun _ _ q => q) (fun b o n q => ⟨fun w => by
      rcases w with w | w
      · exact n w
      · rw [oa b w] at n; exact n hza, q⟩) r
  refine ⟨?_, fun i d h => ?_, fun i m d h => ?_, fun i j m n d e b h1 _ h2 _ => by rw [(ono h1).1, (ono h2).1], hz, fun _ _ h _ => h, fun b h => ⟨ws, by rw [h]; exact hH⟩⟩
  · unfold L2.start blanks
    simp [el]
  · cases i with
    | zero => cases h
    | succ i =>
      rw [List.getElem?_cons_succ] at h
      by_cases hi : i < ds.length
      · rw [List.getElem?_append_left (by simpa using hi), List.getElem?_map] at h
        cases q : ds[i]? with
        | none => rw [q] at h; cases h
        | some d' =>
          rw [q] at h
          cases h
          obtain ⟨v, h1, h2⟩ := r.get q
          exact ⟨v, start_get (by rw [List.getElem?_cons_succ]; exact h1), dn h2⟩
      · rw [List.getElem?_append_right (by simpa using hi)] at h
        unfold blanks at h
        rw [List.getElem?_replicate] at h
        split at h <;> cases h
  · obtain ⟨rfl, rfl, rfl⟩ := ono h
    exact ⟨a, ws, es, rfl, s0, hH, dns r0, fun z => (by cases z), fun _ => rfl⟩
theorem fnR_of {CX : CXT} {k : Nat} {f : Addr} {fd : FuncData} {ps : List Str} {sp : Sp} (F : FnOk P w K mg base CX k f fd ps sp) (hb : Binds K fd ps []) : FnR P w K mg base CX k f sp := by
  intro A outer s H us vs Q E hr e0 r hs
  have hl : us.length = ps.length := by rw [← r.length]; exact F.len _ _ _ _ hs
  have KX : K.In s.heap := e0.mod.kin.keeps fun b o e => (e0.bs b o e).1
  have b := hb s us KX (by rw [List.append_nil]; exact hl)
  rw [List.append_nil] at b
  exact F.run A outer s H ⟨us, []⟩ us vs Q E hr e0 b r hs
/-- a body keeps its promise: the plain kind -/
theorem body_plain {n f : Nat} {fi : FI} {qual : Str} {st : Stmt} {cdv : Value} {A : Around} {outer : List PySem.Env} {s : Shared} {H : Hp} {vs : List V} {Q : VK} {E : XK} {ps : List Str} {fa : Addr} (M : ModOk K mg Pr S G)
    (IH : ∀ (f : Nat) (x : Str) (k : DK), S.fn[f]? = some x → S.kd[f]? = some k → FnR P w K mg base (L2.CX P w) n (Pr.fa f) (spK Pr (run T G B n) k f))
    (Sc : FnScope fi.N ps (defScope st)) (hl : ps.length = fi.np) (hk : chkSs { S with N := fi.N } (defScope st) fi.body (defBody st) = true) (hT : T[f]? = some fi) (hkd : fi.kd ≠ .mutd) (hkf : fi.kd ≠ .frsh)
    (hr : Room n (A.deeper (envOfC qual (defScope st) s.heap.objs.size fa cdv))) (hs : spO Pr (run T G B (n + 1)) f vs H Q E) :
    ∃ t, PSs (cxOf (L2.CX P w) P w K mg base fi.N qual (defScope st) fa cdv A outer s H E) (defBody st) t ∧ t { nx := fun _ H' => Q .non H', rt := Q } (L2.start fi.N vs) H := by
  have g : GoodS { S with N := fi.N } Pr n (run T G B n) G (defScope st) (cxOf (L2.CX P w) P w K mg base fi.N qual (defScope st) fa cdv A outer s H E) (fun cls d _ H => E cls d H) :=
    ⟨⟨rfl, Sc.nd, rfl, hr, M.hK, fun f x k h1 h2 => ⟨(M.fns f x h1).1, (M.fns f x h1).2, by
      have q := IH f x k h1 h2
      cases k <;> exact q⟩, M.gcs, M.blt, M.gcd⟩, rfl, Sc.kind, takes_of rfl rfl rfl rfl, fun _ => rfl, passes_of rfl⟩
  refine ⟨_, sndSs (B := B) fi.body _ _ _ g hk, ?_⟩
  obtain ⟨ds, Z, r, hz, c⟩ := hs
  have pl : fi.np ≤ fi.N.length := by
    have q := congrArg List.length Sc.pre
    rw [List.length_take] at q
    omega
  unfold run at c
  rw [hT] at c
  have c : (match callF (run T G B n) G B fi ds with
    | .ok d _ => ∀ v H', (∀ a o, H a = some o → H' a = some o) → Rp Pr H' Z v d → Q v H'
    | .exc x => ∀ cls dd H', (∀ a o, H a = some o → H' a = some o) → XRl Pr H' Z x cls dd → E cls dd H'
    | .bad => False) := c
  unfold callF at c
  by_cases hn : ds.length = fi.np
  · rw [if_pos hn] at c
    have vl : vs.length ≤ fi.N.length := by rw [r.length, hn]; exact pl
    have E0 := env_start (N := fi.N) vl r hz
    rw [hn] at E0
    have av : ∀ {σ' : L2.St} {e : Env} {H' : Hp} {v : V} {d : D}, Rp Pr H' (Av ⟨Pr, H, Z, fun _ => False⟩ σ' e) v d → Rp Pr H' Z v d := fun r => Rp.imp (fun _ _ q => q) (fun a _ n q => ⟨fun w => n (.inl w), q⟩) r
    refine ⟨⟨Pr, H, Z, fun _ => False⟩, _, rfl, E0, ?_⟩
    have c' : (match (match exs (run T G B n) G B fi.body (ds.map .im ++ blanks (fi.N.length - fi.np)) with
      | .rt d _ _ => CR.ok d .non
      | .nx _ => .ok .non .non
      | .exc x _ => .exc x
      | _ => .bad) with
      | .ok d _ => ∀ v H', (∀ a o, H a = some o → H' a = some o) → Rp Pr H' Z v d → Q v H'
      | .exc x => ∀ cls dd H', (∀ a o, H a = some o → H' a = some o) → XRl Pr H' Z x cls dd → E cls dd H'
      | .bad => False) := by
      revert c
      cases hkk : fi.kd with
      | mutd => exact absurd hkk hkd
      | frsh => exact absurd hkk hkf
      | plain => exact fun c => c
      | star => exact fun c => c
    cases hx : exs (run T G B n) G B fi.body (ds.map .im ++ blanks (fi.N.length - fi.np)) with
    | nx e => rw [hx] at c'; exact fun σ' H' E' A' => c' _ _ (fun a o h => E'.fr a o h fun z => z) rfl
    | rt d fr e => rw [hx] at c'; exact fun v σ' H' E' A' rv => c' _ _ (fun a o h => E'.fr a o h fun z => z) (av rv.1)
    | exc xx e =>
      rw [hx] at c'
      refine fun cls dd σ' H' E' A' rx => c' cls dd H' (fun a o h => E'.fr a o h fun z => z) ?_
      cases xx with
      | mk cc pl =>
        obtain ⟨h1, h2⟩ := rx
        refine ⟨h1, ?_⟩
        cases pl with
        | none => exact h2
        | some d =>
          obtain ⟨dx, v, z1, z2, z3⟩ := h2
          exact ⟨dx, v, z1, z2, av z3⟩
    | bk e => rw [hx] at c'; exact (show False from c').elim
    | ct e => rw [hx] at c'; exact (show False from c').elim
    | bad => rw [hx] at c'; exact (show False from c').elim
  · rw [if_neg hn] at c
    exact (show False from c).elim
theorem body_frsh {n f : Nat} {fi : FI} {qual : Str} {st : Stmt} {cdv : Value} {A : Around} {outer : List PySem.Env} {s : Shared} {H : Hp} {vs : List V} {Q : VK} {E : XK} {ps : List Str} {fa : Addr} (M : ModOk K mg Pr S G)
    (IH : ∀ (f : Nat) (x : Str) (k : DK), S.fn[f]? = some x → S.kd[f]? = some k → FnR P w K mg base (L2.CX P w) n (Pr.fa f) (spK Pr (run T G B n) k f))
    (Sc : FnScope fi.N ps (defScope st)) (hl : ps.length = fi.np) (hk : chkSs { S with N := fi.N } (defScope st) fi.body (defBody st) = true) (hT : T[f]? = some fi) (hkd : fi.kd = .frsh)
    (hr : Room n (A.deeper (envOfC qual (defScope st) s.heap.objs.size fa cdv))) (hs : spF Pr (run T G B (n + 1)) f vs H Q E) :
    ∃ t, PSs (cxOf (L2.CX P w) P w K mg base fi.N qual (defScope st) fa cdv A outer s H E) (defBody st) t ∧ t { nx := fun _ H' => Q .non H', rt := Q } (L2.start fi.N vs) H := by
  have g : GoodS { S with N := fi.N } Pr n (run T G B n) G (defScope st) (cxOf (L2.CX P w) P w K mg base fi.N qual (defScope st) fa cdv A outer s H E) (fun cls d _ H => E cls d H) :=
    ⟨⟨rfl, Sc.nd, rfl, hr, M.hK, fun f x k h1 h2 => ⟨(M.fns f x h1).1, (M.fns f x h1).2, by
      have q := IH f x k h1 h2
      cases k <;> exact q⟩, M.gcs, M.blt, M.gcd⟩, rfl, Sc.kind, takes_of rfl rfl rfl rfl, fun _ => rfl, passes_of rfl⟩
  refine ⟨_, sndSs (B := B) fi.body _ _ _ g hk, ?_⟩
  obtain ⟨ds, Z, r, hz, c⟩ := hs
  have pl : fi.np ≤ fi.N.length := by
    have q := congrArg List.length Sc.pre
    rw [List.length_take] at q
    omega
  unfold run at c
  rw [hT] at c
  have c : (match callF (run T G B n) G B fi ds with
    | .ok (.lst es) _ => ∀ a ws H', (∀ a o, H a = some o → H' a = some o) → H a = none → H' a = some (.lst ws) → Rps Pr H' (fun b => Z b ∨ b = a) ws es → Q (.ref a) H'
    | .exc x => ∀ cls dd H', (∀ a o, H a = some o → H' a = some o) → XRl Pr H' Z x cls dd → E cls dd H'
    | _ => False) := c
  unfold callF at c
  by_cases hn : ds.length = fi.np
  · rw [if_pos hn] at c
    have vl : vs.length ≤ fi.N.length := by rw [r.length, hn]; exact pl
    have E0 := env_start (N := fi.N) vl r hz
    rw [hn] at E0
    have av : ∀ {σ' : L2.St} {e : Env} {H' : Hp} {v : V} {d : D}, Rp Pr H' (Av ⟨Pr, H, Z, fun _ => False⟩ σ' e) v d → Rp Pr H' Z v d := fun r => Rp.imp (fun _ _ q => q) (fun a _ n q => ⟨fun w => n (.inl w), q⟩) r
    refine ⟨⟨Pr, H, Z, fun _ => False⟩, _, rfl, E0, ?_⟩
    simp only [hkd] at c
    cases hx : exs (run T G B n) G B fi.body (ds.map .im ++ blanks (fi.N.length - fi.np)) with
    | nx e => rw [hx] at c; exact (show False from c).elim
    | rt d fr e =>
      rw [hx] at c
      cases fr with
      | false => exact (show False from c).elim
      | true =>
        refine fun v σ' H' E' A' rv => ?_
        obtain ⟨a, ws, es, rfl, rfl, y1, y2, y3⟩ := rv.2 rfl
        exact c a ws H' (fun a o h => E'.fr a o h fun z => z) y2 y1 y3
    | exc xx e =>
      rw [hx] at c
      refine fun cls dd σ' H' E' A' rx => c cls dd H' (fun a o h => E'.fr a o h fun z => z) ?_
      cases xx with
      | mk cc pl =>
        obtain ⟨h1, h2⟩ := rx
        refine ⟨h1, ?_⟩
        cases pl with
        | none => exact h2
        | some d =>
          obtain ⟨dx, v, z1, z2, z3⟩ := h2
          exact ⟨dx, v, z1, z2, av z3⟩
    | bk e => rw [hx] at c; exact (show False from c).elim
    | ct e => rw [hx] at c; exact (show False from c).elim
    | bad => rw [hx] at c; exact (show False from c).elim
  · rw [if_neg hn] at c
    exact (show False from c).elim
theorem body_mut {n f : Nat} {fi : FI} {qual : Str} {st : Stmt} {cdv : Value} {A : Around} {outer : List PySem.Env} {s : Shared} {H : Hp} {vs : List V} {Q : VK} {E : XK} {ps : List Str} {fa : Addr} (M : ModOk K mg Pr S G)
    (IH : ∀ (f : Nat) (x : Str) (k : DK), S.fn[f]? = some x → S.kd[f]? = some k → FnR P w K mg base (L2.CX P w) n (Pr.fa f) (spK Pr (run T G B n) k f))
    (Sc : FnScope fi.N ps (defScope st)) (hl : ps.length = fi.np) (hk : chkSs { S with N := fi.N } (defScope st) fi.body (defBody st) = true) (hT : T[f]? = some fi) (hkd : fi.kd = .mutd)
    (hr : Room n (A.deeper (envOfC qual (defScope st) s.heap.objs.size fa cdv))) (hs : spM Pr (run T G B (n + 1)) f vs H Q E) :
    ∃ t, PSs (cxOf (L2.CX P w) P w K mg base fi.N qual (defScope st) fa cdv A outer s H E) (defBody st) t ∧ t { nx := fun _ H' => Q .non H', rt := Q } (L2.start fi.N vs) H := by
  have g : GoodS { S with N := fi.N } Pr n (run T G B n) G (defScope st) (cxOf (L2.CX P w) P w K mg base fi.N qual (defScope st) fa cdv A outer s H E) (fun cls d _ H => E cls d H) :=
    ⟨⟨rfl, Sc.nd, rfl, hr, M.hK, fun f x k h1 h2 => ⟨(M.fns f x h1).1, (M.fns f x h1).2, by
      have q := IH f x k h1 h2
      cases k <;> exact q⟩, M.gcs, M.blt, M.gcd⟩, rfl, Sc.kind, takes_of rfl rfl rfl rfl, fun _ => rfl, passes_of rfl⟩
  refine ⟨_, sndSs (B := B) fi.body _ _ _ g hk, ?_⟩
  obtain ⟨a, ws, es, us, ds, Z, rfl, hH, r0, r, hza, hz, c⟩ := hs
  have pl : fi.np ≤ fi.N.length := by
    have q := congrArg List.length Sc.pre
    rw [List.length_take] at q
    omega
  unfold run at c
  rw [hT] at c
  have c : (match callF (run T G B n) G B fi (.lst es :: ds) with
    | .ok d (.lst es') => ∀ v H' ws', (∀ b o, b ≠ a → H b = some o → H' b = some o) → H' a = some (.lst ws') → Rps Pr H' Z ws' es' → Rp Pr H' Z v d → Q v H'
    | _ => False) := c
  unfold callF at c
  by_cases hn : (TT.D.lst es :: ds).length = fi.np
  · rw [if_pos hn] at c
    have hn' : ds.length + 1 = fi.np := hn
    have vl : (V.ref a :: us).length ≤ fi.N.length := by
      have q := r.length
      simp only [List.length_cons]
      omega
    have E0 := env_startM (N := fi.N) vl hH r0 r hza hz
    rw [hn'] at E0
    refine ⟨⟨Pr, H, Z, fun b => b = a⟩, _, rfl, E0, ?_⟩
    simp only [hkd] at c
    have av : ∀ {σ' : L2.St} {e : Env} {H' : Hp} {v : V} {d : D}, Rp Pr H' (Av ⟨Pr, H, Z, fun b => b = a⟩ σ' e) v d → Rp Pr H' Z v d := fun r => Rp.imp (fun _ _ q => q) (fun a _ n q => ⟨fun w => n (.inl w), q⟩) r
    have avs : ∀ {σ' : L2.St} {e : Env} {H' : Hp} {v : List V} {d : List D}, Rps Pr H' (Av ⟨Pr, H, Z, fun b => b = a⟩ σ' e) v d → Rps Pr H' Z v d := fun r => Rps.imp (fun _ _ q => q) (fun a _ n q => ⟨fun w => n (.inl w), q⟩) r
    -- the end: the first slot
    have fin : ∀ {d : D} {e : Env}, (match outM d e with
        | .ok d (.lst es') => ∀ v H' ws', (∀ b o, b ≠ a → H b = some o → H' b = some o) → H' a = some (.lst ws') → Rps Pr H' Z ws' es' → Rp Pr H' Z v d → Q v H'
        | _ => False) → ∀ v σ' H', EnvOk ⟨Pr, H, Z, fun b => b = a⟩ σ' H' e → Rp Pr H' Z v d → Q v H' := fun {d e} c v σ' H' E' rv => by
      split at c
      · rename_i d' es' heq
        unfold outM at heq
        split at heq
        · rename_i d1 he
          cases heq
          obtain ⟨b, us', bs, z0, z1, z2, z3, z4, z5⟩ := E'.ow 0 true _ he
          cases z0
          obtain rfl : b = a := z5 rfl
          exact c v H' us' (fun b' o nb h => E'.fr b' o h nb) z2 (avs z3) rv
        · cases heq
      · exact c.elim
    cases hx : exs (run T G B n) G B fi.body (.ow true (.lst es) :: (ds.map .im ++ blanks (fi.N.length - fi.np))) with
    | nx e =>
      rw [hx] at c
      exact fun σ' H' E' A' => fin (d := .non) c .non σ' H' E' rfl
    | rt d fr e =>
      rw [hx] at c
      exact fun v σ' H' E' A' rv => fin c v σ' H' E' (av rv.1)
    | exc xx e => rw [hx] at c; exact (show False from c).elim
    | bk e => rw [hx] at c; exact (show False from c).elim
    | ct e => rw [hx] at c; exact (show False from c).elim
    | bad => rw [hx] at c; exact (show False from c).elim
  · rw [if_neg hn] at c
    exact (show False from c).elim
/-- every def of the table keeps its promise, at every level -/
theorem run_ok (M : ModOk K mg Pr S G) (Ff : ∀ (f : Nat) (fi : FI), T[f]? = some fi → FF P w K Pr S f fi) (hkd : ∀ (f : Nat) (fi : FI) (k : DK), T[f]? = some fi → S.kd[f]? = some k → fi.kd = k) :
    ∀ n : Nat, (∀ (f : Nat) (fi : FI), T[f]? = some fi → FnR P w K mg base (L2.CX P w) n (Pr.fa f) (spK Pr (run T G B n) fi.kd f)) ∧
      ∀ (f : Nat) (x : Str) (k : DK), S.fn[f]? = some x → S.kd[f]? = some k → FnR P w K mg base (L2.CX P w) n (Pr.fa f) (spK Pr (run T G B n) k f) := by
  have none_ : ∀ (n : Nat) (f : Nat) (k : DK), (n = 0 ∨ T[f]? = none) → ∀ vs H Q E, spK Pr (run T G B n) k f vs H Q E → False ∨ k = .star := fun n f k h vs H Q E hs => by
    have rb : ∀ ds, run T G B n f ds = .bad := fun ds => by
      cases n with
      | zero => rfl
      | succ n =>
        rcases h with h | h
        · cases h
        · unfold run
          rw [h]
    cases k with
    | plain =>
      obtain ⟨ds, Z, r, hz, c⟩ := hs
      rw [rb] at c
      exact .inl c
    | mutd =>
      obtain ⟨a, ws, es, us, ds, Z, _, _, _, _, _, _, c⟩ := hs
      rw [rb] at c
      exact .inl c
    | star => exact .inr rfl
    | frsh =>
      obtain ⟨ds, Z, r, hz, c⟩ := hs
      rw [rb] at c
      exact .inl c
  have star_ : ∀ (n : Nat) (f : Nat), (n = 0 ∨ T[f]? = none) → ∀ vs H Q E, (∃ p, H p = none) → spK Pr (run T G B n) .star f vs H Q E → False := fun n f h vs H Q E ⟨p, hp⟩ hs => by
    rcases none_ n f .plain h _ _ Q E (hs.2 p hp) with z | z
    · exact z
    · cases z
  have base_ : ∀ (n : Nat) (f : Nat) (k : DK), (n = 0 ∨ T[f]? = none) → FnR P w K mg base (L2.CX P w) n (Pr.fa f) (spK Pr (run T G B n) k f) := fun n f k h A outer s H us vs Q E hr e0 r hs => by
    rcases none_ n f k h vs H Q E hs with z | z
    · exact z.elim
    · subst z
      exact (star_ n f h vs H Q E ⟨_, e0.hok.fresh (Nat.le_refl _)⟩ hs).elim
  intro n
  induction n with
  | zero => exact ⟨fun f fi _ => base_ 0 f fi.kd (.inl rfl), fun f x k _ _ => base_ 0 f k (.inl rfl)⟩
  | succ n ih =>
    have main : ∀ (f : Nat) (fi : FI), T[f]? = some fi → FnR P w K mg base (L2.CX P w) (n + 1) (Pr.fa f) (spK Pr (run T G B (n + 1)) fi.kd f) := fun f fi hT => by
      obtain ⟨x, qual, st, fd, ps, F, Sc, hl, hk, hb⟩ := (Ff f fi hT).ex
      cases hkk : fi.kd with
      | plain =>
        rw [hkk] at hb
        refine fnR_of (F.okX Sc (fun vs H Q E hs => ?_) fun cdv A outer s H vs Q E hr hs => body_plain M ih.2 Sc hl hk hT (by rw [hkk]; decide) (by rw [hkk]; decide) hr hs) (.all hb)
        obtain ⟨ds, Z, r, hz, c⟩ := hs
        unfold run at c
        rw [hT] at c
        have c : (match callF (run T G B n) G B fi ds with
          | .ok d _ => ∀ v H', (∀ a o, H a = some o → H' a = some o) → Rp Pr H' Z v d → Q v H'
          | .exc x => ∀ cls dd H', (∀ a o, H a = some o → H' a = some o) → XRl Pr H' Z x cls dd → E cls dd H'
          | .bad => False) := c
        unfold callF at c
        by_cases hn : ds.length = fi.np
        · rw [r.length, hn, hl]
        · rw [if_neg hn] at c
          exact c.elim
      | mutd =>
        rw [hkk] at hb
        refine fnR_of (F.okX Sc (fun vs H Q E hs => ?_) fun cdv A outer s H vs Q E hr hs => body_mut M ih.2 Sc hl hk hT hkk hr hs) (.all hb)
        obtain ⟨a, ws, es, us, ds, Z, rfl, hH, r0, r, hza, hz, c⟩ := hs
        unfold run at c
        rw [hT] at c
        have c : (match callF (run T G B n) G B fi (.lst es :: ds) with
          | .ok d (.lst es') => ∀ v H' ws', (∀ b o, b ≠ a → H b = some o → H' b = some o) → H' a = some (.lst ws') → Rps Pr H' Z ws' es' → Rp Pr H' Z v d → Q v H'
          | _ => False) := c
        unfold callF at c
        by_cases hn : (TT.D.lst es :: ds).length = fi.np
        · have q := r.length
          simp only [List.length_cons] at hn ⊢
          omega
        · rw [if_neg hn] at c
          exact (show False from c).elim
      | frsh =>
        rw [hkk] at hb
        refine fnR_of (F.okX Sc (fun vs H Q E hs => ?_) fun cdv A outer s H vs Q E hr hs => body_frsh M ih.2 Sc hl hk hT hkk hr hs) (.all hb)
        obtain ⟨ds, Z, r, hz, c⟩ := hs
        unfold run at c
        rw [hT] at c
        have c : (match callF (run T G B n) G B fi ds with
          | .ok (.lst es) _ => ∀ a ws H', (∀ a o, H a = some o → H' a = some o) → H a = none → H' a = some (.lst ws) → Rps Pr H' (fun b => Z b ∨ b = a) ws es → Q (.ref a) H'
          | .exc x => ∀ cls dd H', (∀ a o, H a = some o → H' a = some o) → XRl Pr H' Z x cls dd → E cls dd H'
          | _ => False) := c
        unfold callF at c
        by_cases hn : ds.length = fi.np
        · rw [r.length, hn, hl]
        · rw [if_neg hn] at c
          exact (show False from c).elim
      | star =>
        rw [hkk] at hb
        obtain ⟨pv, rfl, hb⟩ := hb
        obtain ⟨oc, od, kV, doc, pm, an, cdv, ct, osl, rfl, lk, hcd⟩ := F.ex
        refine (StX.fn_star (ps := []) (pv := pv) (sp := spO Pr (run T G B (n + 1)) f) lk hcd Sc StX.cxUp (fun us rest hu => ?_) fun A outer s H vs Q E hr hs => body_plain M ih.2 Sc hl hk hT (by rw [hkk]; decide) (by rw [hkk]; decide) hr hs).imp fun vs H Q E hs => ?_
        · cases us with
          | nil => exact hb rest
          | cons _ _ => cases hu
        · exact ⟨[], vs, rfl, rfl, hs.1, fun p hp => hs.2 p hp⟩
    refine ⟨main, fun f x k h1 h2 => ?_⟩
    cases hT : T[f]? with
    | none => exact base_ (n + 1) f k (.inr hT)
    | some fi =>
      have q := main f fi hT
      rw [hkd f fi k hT h2] at q
      exact q
/-- the law's def -/
theorem law_ok (M : ModOk K mg Pr S G) (Ff : ∀ (f : Nat) (fi : FI), T[f]? = some fi → FF P w K Pr S f fi) (hkd : ∀ (f : Nat) (fi : FI) (k : DK), T[f]? = some fi → S.kd[f]? = some k → fi.kd = k) {n f : Nat} {fi : FI} (hT : T[f]? = some fi) (hkk : fi.kd = .plain) :
    ∃ (fd : FuncData) (ps : List Str), (∀ us : List Value, us.length = ps.length → bindArgs fd ⟨us, []⟩ = pure (ps.zip us)) ∧ fi.N.take ps.length = ps ∧ ps.length = fi.np ∧ ∀ base : Heap, FnOk P w K mg base (L2.CX P w) (n + 1) (Pr.fa f) fd ps (spO Pr (run T G B (n + 1)) f) := by
  obtain ⟨x, qual, st, fd, ps, F, Sc, hl, hk, hb⟩ := (Ff f fi hT).ex
  rw [hkk] at hb
  refine ⟨fd, ps, hb, Sc.pre, hl, fun base => F.okX Sc (fun vs H Q E hs => ?_) fun cdv A outer s H vs Q E hr hs => body_plain M (run_ok (base := base) M Ff hkd n).2 Sc hl hk hT (by rw [hkk]; decide) (by rw [hkk]; decide) hr hs⟩
  obtain ⟨ds, Z, r, hz, c⟩ := hs
  unfold run at c
  rw [hT] at c
  have c : (match callF (run T G B n) G B fi ds with
    | .ok d _ => ∀ v H', (∀ a o, H a = some o → H' a = some o) → Rp Pr H' Z v d → Q v H'
    | .exc x => ∀ cls dd H', (∀ a o, H a = some o → H' a = some o) → XRl Pr H' Z x cls dd → E cls dd H'
    | .bad => False) := c
  unfold callF at c
  by_cases hn : ds.length = fi.np
  · rw [r.length, hn, hl]
  · rw [if_neg hn] at c
    exact c.elim
end
end TT

set_option maxHeartbeats 4000000
namespace TT
open PySem L2 PySem.Spec PyProof.Rows

/-! ### the end: all defs of a program -/
/-- what is checked of a def's text -/
structure St (S : CK) (x : Str) (st : Stmt) (fi : FI) : Prop where
  ex : ∃ ps : List Str, FnScope fi.N ps (defScope st) ∧ ps.length = fi.np ∧ chkSs { S with N := fi.N } (defScope st) fi.body (defBody st) = true ∧
    (match fi.kd with
      | .star => ∃ pv, ps = [pv] ∧ ∀ (kV doc pm : Value) (an : Option Addr) (cdv ct : Value) (us : List Value), bindArgs (PySem.W.fnOf x x (defArgs st) (defBody st) (defScope st) .none kV doc pm an cdv ct) ⟨us, []⟩ = (newTuple us >>= fun t => pure [(pv, t)])
      | _ => ∀ (kV doc pm : Value) (an : Option Addr) (cdv ct : Value) (us : List Value), us.length = ps.length → bindArgs (PySem.W.fnOf x x (defArgs st) (defBody st) (defScope st) .none kV doc pm an cdv ct) ⟨us, []⟩ = pure (ps.zip us))
def StAll (S : CK) : List (Str × Stmt) → List FI → Prop
  | [], [] => True
  | p :: r, fi :: q => St S p.1 p.2 fi ∧ StAll S r q
  | _, _ => False
theorem StAll.get {S : CK} : ∀ {ds : List (Str × Stmt)} {T : List FI} {f : Nat} {fi : FI}, StAll S ds T → T[f]? = some fi → ∃ p, ds[f]? = some p ∧ St S p.1 p.2 fi
  | [], [], f, fi, _, h => by simp at h
  | [], _ :: _, f, fi, h, _ => h.elim
  | _ :: _, [], f, fi, h, _ => h.elim
  | p :: r, gi :: q, 0, fi, h, k => by
    simp at k
    subst k
    exact ⟨p, rfl, h.1⟩
  | p :: r, gi :: q, f + 1, fi, h, k => by
    obtain ⟨p', h1, h2⟩ := StAll.get (f := f) h.2 (by simpa using k)
    exact ⟨p', by simpa using h1, h2⟩
def dOf (p : Str × Stmt) : He.DefD := ⟨(p.1, none), p.1, p.1, defArgs p.2, defBody p.2, defScope p.2, [], []⟩
def blts : List Str := ["len", "int", "tuple", "list", "abs", "max", "min", "all", "any", "isinstance", "bool", "str", "range"]
def faOf (ds : List (Str × Stmt)) (cs : List (Str × Int)) : List He.Fa := ds.map (fun p => He.Fa.glo p.1) ++ (cs.map (fun p => He.Fa.int p.1 p.2) ++ blts.map .free)
def exGcd (K : PySem.W.Frag) : Bool := He.eqO (PySem.W.nsIn K mainGlobals ("gcd" : Str)) (some (some (.builtin "math.gcd")))
/-- the hook: facts of the defs, of the constants, one more -/
def hookM (n : Nat) (fa : List He.Fa) (fn : List He.DefD) (ex : PySem.W.Frag → Bool) : PySem.W.Hook where
  α := Bool × He.AlD
  obs := fun s => (ex (He.frG s.heap.get? (He.asD s.heap.get? n)), He.obsDG n fa fn s.heap.get?)
  val := fun _ => (true, He.valD fn)
  says := fun _ h => ∃ K : PySem.W.Frag, K.In h ∧ He.SaysD fa fn K ∧ ex K = true
  of := fun _ _ e => ⟨_, He.frG_in, congrArg (fun z : Bool × He.AlD => z.2) e, congrArg (fun z : Bool × He.AlD => z.1) e⟩
  keeps := fun _ _ _ ⟨K, hK, c⟩ k => ⟨K, PySem.W.Frag.In.keeps hK k, c⟩
theorem obsM_eq {n : Nat} {fa : List He.Fa} {fn : List He.DefD} {ex : PySem.W.Frag → Bool} {g : Addr → Option Obj} {s : Shared} (h : ∀ a, g a = s.heap.get? a) : (ex (He.frG g (He.asD g n)), He.obsDG n fa fn g) = (hookM n fa fn ex).obs s := by
  have e : g = s.heap.get? := funext h
  rw [e] <;> rfl
def PgOf (K : PySem.W.Frag) (fn : List Str) : Pg := ⟨K, fun f => He.ga K (fn.getD f Str.empty), fun _ => 0, fun _ => Str.empty⟩
/-- .. and hence: the law's def, by the interpreter -/
theorem end_ok {P : Program} {w : World} {K : PySem.W.Frag} {h : Heap} {mg : Str → Option Value} {S : CK} {T : List FI} {ds : List (Str × Stmt)} {cs : List (Str × Int)} {B n L : Nat} {fL : FI} (hS : S.fn = ds.map (·.1)) (hC : S.gc = cs.map (·.1))
    (sa : StAll S ds T) (hkd : S.kd = T.map (·.kd)) (X : K.In h) (G : h.Ns mainGlobals mg) (c : He.SaysD (faOf ds cs) (ds.map dOf) K) (cx : exGcd K = true) (hT : T[L]? = some fL) (hkk : fL.kd = .plain) :
    ∃ (fd : FuncData) (ps : List Str), (∀ us : List Value, us.length = ps.length → bindArgs fd ⟨us, []⟩ = pure (ps.zip us)) ∧ fL.N.take ps.length = ps ∧ ps.length = fL.np ∧ ∀ base : Heap, K.In base → base.Ns mainGlobals mg → FnOk P w K mg base (L2.CX P w) (n + 1) (He.ga K (S.fn.getD L Str.empty)) fd ps (spO (PgOf K S.fn) (run T (cs.map fun p => .int p.2) B (n + 1)) L) := by
  have M : ModOk K mg (PgOf K S.fn) S (cs.map fun p => .int p.2) := by
    refine ⟨rfl, fun f x hf => ?_, fun k x d h1 h2 => ?_, fun x hx => ?_, PySem.W.mg_of X G (He.eqO_ok cx)⟩
    · have hx : S.fn.getD f Str.empty = x := by rw [List.getD_eq_getElem?_getD, hf]; rfl
      show mg x = some (.ref (He.ga K (S.fn.getD f Str.empty))) ∧ PySem.W.keepIn K (.ref (He.ga K (S.fn.getD f Str.empty))) = true
      rw [hx]
      rw [hS, List.getElem?_map] at hf
      cases q : ds[f]? with
      | none => rw [q] at hf; cases hf
      | some p =>
        rw [q] at hf
        have e : p.1 = x := Option.some.inj hf
        have c1 : (He.Fa.glo x).ok K = true := by
          obtain ⟨i, hi, e1⟩ := List.mem_iff_getElem.mp (show He.Fa.glo x ∈ faOf ds cs from List.mem_append_left _ (List.mem_map.mpr ⟨p, List.mem_of_getElem? q, by rw [e]⟩))
          exact c.fact i (f := .glo x) (by rw [List.getElem?_eq_getElem hi, e1])
        obtain ⟨fd, F⟩ := c.def_ f (d := dOf p) (by rw [List.getElem?_map, q]; rfl)
        have kp := F.kp
        have e2 : He.fAd K (dOf p).at_ = He.ga K x := by rw [← e]; rfl
        rw [e2] at kp
        exact ⟨He.glo_ok X G c1, kp⟩
    · rw [hC, List.getElem?_map] at h1
      rw [List.getElem?_map] at h2
      cases q : cs[k]? with
      | none => rw [q] at h1; cases h1
      | some p =>
        rw [q] at h1 h2
        cases h1
        cases h2
        have c1 : (He.Fa.int p.1 p.2).ok K = true := by
          obtain ⟨i, hi, e1⟩ := List.mem_iff_getElem.mp (show He.Fa.int p.1 p.2 ∈ faOf ds cs from List.mem_append_right _ (List.mem_append_left _ (List.mem_map.mpr ⟨p, List.mem_of_getElem? q, rfl⟩)))
          exact c.fact i (f := .int p.1 p.2) (by rw [List.getElem?_eq_getElem hi, e1])
        obtain ⟨t, ht⟩ := He.int_ok X G c1
        exact ⟨.int p.2, .int p.2 t, ht, ⟨t, rfl⟩, rfl, fun H A => rfl⟩
    · have c1 : (He.Fa.free x).ok K = true := by
        obtain ⟨i, hi, e1⟩ := List.mem_iff_getElem.mp (show He.Fa.free x ∈ faOf ds cs from List.mem_append_right _ (List.mem_append_right _ (List.mem_map.mpr ⟨x, hx, rfl⟩)))
        exact c.fact i (f := .free x) (by rw [List.getElem?_eq_getElem hi, e1])
      exact He.free_ok X G c1
  have Ff : ∀ (f : Nat) (fi : FI), T[f]? = some fi → FF P w K (PgOf K S.fn) S f fi := fun f fi hf => by
    obtain ⟨p, hp, ⟨ps, s1, s2, s3, s4⟩⟩ := sa.get hf
    obtain ⟨fd, F⟩ := c.def_ f (d := dOf p) (by rw [List.getElem?_map, hp]; rfl)
    have F' : Fun K p.1 p.1 p.2 (He.ga K p.1) fd := He5.fun_of F
    have ea : (PgOf K S.fn).fa f = He.ga K p.1 := by
      show He.ga K (S.fn.getD f Str.empty) = _
      rw [hS, List.getD_eq_getElem?_getD, List.getElem?_map, hp]
      rfl
    refine ⟨p.1, p.1, p.2, fd, ps, by rw [ea]; exact F', s1, s2, s3, ?_⟩
    obtain ⟨oc, od, kV, doc, pm, an, cdv, ct, osl, rfl, lk, hcd⟩ := F'.ex
    cases hk : fi.kd with
    | star =>
      rw [hk] at s4
      obtain ⟨pv, e, b⟩ := s4
      exact ⟨pv, e, fun us => b kV doc pm an cdv ct us⟩
    | plain =>
      rw [hk] at s4
      exact fun us hl => s4 kV doc pm an cdv ct us hl
    | mutd =>
      rw [hk] at s4
      exact fun us hl => s4 kV doc pm an cdv ct us hl
    | frsh =>
      rw [hk] at s4
      exact fun us hl => s4 kV doc pm an cdv ct us hl
  have hkd' : ∀ (f : Nat) (fi : FI) (k : DK), T[f]? = some fi → S.kd[f]? = some k → fi.kd = k := fun f fi k h1 h2 => by
    rw [hkd, List.getElem?_map, h1] at h2
    exact Option.some.inj h2
  obtain ⟨fd, ps, h1, h2, h3, F⟩ := law_ok (P := P) (w := w) (mg := mg) (B := B) (n := n) M Ff hkd' hT hkk
  exact ⟨fd, ps, h1, h2, h3, fun base _ _ => F base⟩
/-- the law's end: the answer of the interpreter at every script -/
theorem law_walk {l : PySem.W.OpenLaw} {q : Program} {loose : List Str} {XP : (Str → Option Value) → Heap → Prop} {d : DefRec} {S : CK} {T : List FI} {ds : List (Str × Stmt)} {cs : List (Str × Int)} {B n L m : Nat} {fL : FI} {x : Str}
    (hn : l.most = some 63) (hdf : d.params.defaults = []) (hnm : d.name = S.fn.getD L Str.empty) (hr : Room (n + 1) callerA) (hS : S.fn = ds.map (·.1)) (hC : S.gc = cs.map (·.1))
    (sa : StAll S ds T) (hkd : S.kd = T.map (·.kd)) (hT : T[L]? = some fL) (hkk : fL.kd = .plain) (hx : fL.N.take 1 = [x]) (hp : fL.np = 1)
    (math : ∀ ns : List Int, ns.length ≤ 63 → ∃ o, run T (cs.map fun p => .int p.2) B (n + 1) L [.scr ns] = .ok (.bl true) o) :
    PySem.W.WalkO q loose XP (hookM m (faOf ds cs) (ds.map dOf) exGcd).says l.row.toRowW d [] (fun f vs => PySem.call f vs) := by
  refine Att.attach_call hn hdf fun w s₀ s₁ mg mb fa o pm cd doc a vs ns G Y ho hd hcd hmg hobj hints hlen hg => ?_
  obtain ⟨K, KX, c, cx⟩ := Y
  obtain ⟨fd, ps, h1, h2, h3, F⟩ := end_ok (P := l.prog) (w := w) (B := B) (n := n) hS hC sa hkd KX G.T.g c cx hT hkk
  have hps : ps = [x] := by
    rw [h3, hp, hx] at h2
    exact h2.symm
  subst hps
  have hfa : fa = He.ga K (S.fn.getD L Str.empty) := by
    have hi : L < T.length := (List.getElem?_eq_some_iff.mp hT).1
    obtain ⟨p, hp', _⟩ := sa.get hT
    have c1 : (He.Fa.glo p.1).ok K = true := by
      obtain ⟨i, hi, e1⟩ := List.mem_iff_getElem.mp (show He.Fa.glo p.1 ∈ faOf ds cs from List.mem_append_left _ (List.mem_map.mpr ⟨p, List.mem_of_getElem? hp', rfl⟩))
      exact c.fact i (f := .glo p.1) (by rw [List.getElem?_eq_getElem hi, e1])
    have e := He.glo_ok KX G.T.g c1
    have ep : S.fn.getD L Str.empty = p.1 := by rw [hS, List.getD_eq_getElem?_getD, List.getElem?_map, hp']; rfl
    rw [hnm, ep] at hmg
    rw [ep]
    rw [hmg] at e
    cases e
    rfl
  subst hfa
  refine law_call KX G.T.g G.T.b G.T.builtins G.T.nolimit hg hobj hints (Nat.le_trans hlen (by decide)) hr F (fun s u => .of_eq (h1 [u] rfl)) (fun H hO hS' => ?_) fun H e s' z => ?_
  · obtain ⟨o', ho'⟩ := math ns hlen
    refine ⟨[.scr ns], fun _ => False, ⟨_, _, rfl, ?_, rfl⟩, fun _ h => h.elim, ?_⟩
    · refine ⟨a, rfl, ?_⟩
      rcases hS' with h | ⟨o, its, k, h⟩
      · exact .inl ⟨fun z => z, h⟩
      · exact .inr fun H' => .inr ⟨o, its, k, h⟩
    · rw [ho']
      exact fun v H' _ r => r
  · obtain ⟨_, _, _, _, _, _, _, _, _, _, _, _, hE⟩ := z
    exact hE
end TT

set_option maxHeartbeats 4000000
namespace TT
/-! ### fractions in lowest terms -/
def gI (t b : Int) : Int := ((Nat.gcd t.natAbs b.natAbs : Nat) : Int)
def gS (t b : Int) : Int := if 0 < b then gI t b else -gI t b
def frT (t b : Int) : Int := t.fdiv (gS t b)
def frB (t b : Int) : Int := b.fdiv (gS t b)
def Cop (p q : Int) : Prop := Nat.gcd p.natAbs q.natAbs = 1
theorem fdiv_mul (g a : Int) (h : g ≠ 0) : (g * a).fdiv g = a := Int.mul_fdiv_cancel_left a h
/-- the common divisor with b's sign, and what is left -/
theorem gS_split (t b : Int) (hb : b ≠ 0) : ∃ k p q : Int, gS t b = k ∧ k ≠ 0 ∧ t = k * p ∧ b = k * q ∧ 0 < q ∧ Cop p q := by
  have hg0 : 0 < Nat.gcd t.natAbs b.natAbs := Nat.gcd_pos_of_pos_right _ (by omega)
  obtain ⟨a, ha⟩ := Nat.gcd_dvd_left t.natAbs b.natAbs
  obtain ⟨c, hc⟩ := Nat.gcd_dvd_right t.natAbs b.natAbs
  have hco : Nat.gcd a c = 1 := by
    have h1 : Nat.gcd (Nat.gcd t.natAbs b.natAbs * a) (Nat.gcd t.natAbs b.natAbs * c) = Nat.gcd t.natAbs b.natAbs * Nat.gcd a c := Nat.gcd_mul_left ..
    rw [← ha, ← hc] at h1
    have h2 : Nat.gcd t.natAbs b.natAbs * 1 = Nat.gcd t.natAbs b.natAbs * Nat.gcd a c := by rw [Nat.mul_one]; exact h1
    exact (Nat.eq_of_mul_eq_mul_left hg0 h2).symm
  generalize hG : Nat.gcd t.natAbs b.natAbs = G at *
  have hc0 : 0 < c := Nat.pos_of_ne_zero fun z => by rw [z, Nat.mul_zero] at hc; omega
  have gi : gI t b = (G : Int) := by unfold gI; rw [hG]
  by_cases h : 0 < b
  · refine ⟨G, if 0 ≤ t then (a : Int) else -(a : Int), c, by unfold gS; rw [if_pos h, gi], by omega, ?_, ?_, by omega, ?_⟩
    · split
      · rw [← Int.natCast_mul, ← ha]; omega
      · rw [Int.mul_neg, ← Int.natCast_mul, ← ha]; omega
    · rw [← Int.natCast_mul, ← hc]; omega
    · unfold Cop
      split
      · exact hco
      · rw [Int.natAbs_neg]; exact hco
  · refine ⟨-G, if 0 ≤ t then -(a : Int) else (a : Int), c, by unfold gS; rw [if_neg h, gi], by omega, ?_, ?_, by omega, ?_⟩
    · split
      · rw [Int.neg_mul_neg, ← Int.natCast_mul, ← ha]; omega
      · rw [Int.neg_mul, ← Int.natCast_mul, ← ha]; omega
    · rw [Int.neg_mul, ← Int.natCast_mul, ← hc]; omega
    · unfold Cop
      split
      · rw [Int.natAbs_neg]; exact hco
      · exact hco
theorem fr_split (t b : Int) (hb : b ≠ 0) : gS t b ≠ 0 ∧ t = gS t b * frT t b ∧ b = gS t b * frB t b ∧ 0 < frB t b ∧ Cop (frT t b) (frB t b) := by
  obtain ⟨k, p, q, h1, h2, h3, h4, h5, h6⟩ := gS_split t b hb
  have e1 : frT t b = p := by
    unfold frT
    rw [h1]
    exact (congrArg (Int.fdiv · k) h3).trans (fdiv_mul k p h2)
  have e2 : frB t b = q := by
    unfold frB
    rw [h1]
    exact (congrArg (Int.fdiv · k) h4).trans (fdiv_mul k q h2)
  rw [e1, e2, h1]
  exact ⟨h2, h3, h4, h5, h6⟩
theorem fr_cross (t b : Int) (hb : b ≠ 0) : frT t b * b = t * frB t b := by
  obtain ⟨h1, h2, h3, _, _⟩ := fr_split t b hb
  calc frT t b * b = frT t b * (gS t b * frB t b) := by rw [← h3]
    _ = (gS t b * frT t b) * frB t b := by rw [← Int.mul_assoc, Int.mul_comm (frT t b)]
    _ = t * frB t b := by rw [← h2]
theorem natAbs_le_mul {k p : Int} (h : k ≠ 0) : p.natAbs ≤ (k * p).natAbs := by
  rw [Int.natAbs_mul]
  exact Nat.le_mul_of_pos_left _ (by omega)
theorem frT_le (t b : Int) (hb : b ≠ 0) : (frT t b).natAbs ≤ t.natAbs := by
  obtain ⟨h1, h2, _⟩ := fr_split t b hb
  have := natAbs_le_mul (p := frT t b) h1
  rw [← h2] at this
  exact this
theorem frB_le (t b : Int) (hb : b ≠ 0) : (frB t b).natAbs ≤ b.natAbs := by
  obtain ⟨h1, _, h2, _⟩ := fr_split t b hb
  have := natAbs_le_mul (p := frB t b) h1
  rw [← h2] at this
  exact this
theorem gI_le (t b : Int) (hb : b ≠ 0) : (gS t b).natAbs ≤ b.natAbs := by
  obtain ⟨h1, _, h2, h3, _⟩ := fr_split t b hb
  have h4 : (gS t b * frB t b).natAbs = (gS t b).natAbs * (frB t b).natAbs := Int.natAbs_mul ..
  rw [← h2] at h4
  rw [h4]
  exact Nat.le_mul_of_pos_right _ (by omega)
/-- one number has one fraction in lowest terms -/
theorem fr_uniq {p q p' q' : Int} (h : p * q' = p' * q) (hq : 0 < q) (hq' : 0 < q') (c : Cop p q) (c' : Cop p' q') : p = p' ∧ q = q' := by
  have hn : p.natAbs * q'.natAbs = p'.natAbs * q.natAbs := by rw [← Int.natAbs_mul, ← Int.natAbs_mul, h]
  have d1 : q.natAbs ∣ q'.natAbs := by
    have : q.natAbs ∣ p.natAbs * q'.natAbs := ⟨p'.natAbs, by rw [hn, Nat.mul_comm]⟩
    exact Nat.Coprime.dvd_of_dvd_mul_left (Nat.Coprime.symm c) this
  have d2 : q'.natAbs ∣ q.natAbs := by
    have : q'.natAbs ∣ p'.natAbs * q.natAbs := ⟨p.natAbs, by rw [← hn, Nat.mul_comm]⟩
    exact Nat.Coprime.dvd_of_dvd_mul_left (Nat.Coprime.symm c') this
  have e : q.natAbs = q'.natAbs := Nat.dvd_antisymm d1 d2
  have eq : q = q' := by omega
  subst eq
  exact ⟨Int.eq_of_mul_eq_mul_right (by omega) h, rfl⟩
theorem fr_is {x y p q : Int} (hy : y ≠ 0) (h : x * q = p * y) (hq : 0 < q) (c : Cop p q) : frT x y = p ∧ frB x y = q := by
  obtain ⟨h1, h2, h3, h4, h5⟩ := fr_split x y hy
  refine fr_uniq ?_ h4 hq h5 c
  have e : gS x y * (frT x y * q) = gS x y * (p * frB x y) := by
    rw [← Int.mul_assoc, ← h2, h, ← Int.mul_assoc, Int.mul_comm (gS x y), Int.mul_assoc, ← h3]
  exact Int.eq_of_mul_eq_mul_left h1 e
end TT

set_option maxHeartbeats 0
namespace TT
open PySem L2 PySem.Spec PyProof.Rows
/-! ### the defs, as the text has them -/
def top (i : Nat) : Stmt := PySem.Challenge.pw_tametrees_k00_whole_fractions.main.body.getD i (.Pass ⟨0, 0, 0, 0⟩)
def fnNames : List Str := [("is_whole" : Str), ("is_short" : Str), ("lowest_of" : Str), ("fraction_of" : Str), ("plus_of" : Str), ("minus_of" : Str), ("times_of" : Str), ("over_of" : Str), ("compared_of" : Str), ("floor_in" : Str), ("rest_in" : Str), ("is_fraction_any" : Str), ("require_numbers" : Str), ("is_integer" : Str), ("is_fraction" : Str), ("is_number" : Str), ("lowest" : Str), ("plus" : Str), ("minus" : Str), ("times" : Str), ("over" : Str), ("compare" : Str), ("floor_of" : Str), ("rest_of" : Str), ("_law_dice" : Str), ("_law_roll" : Str), ("_law_pick" : Str), ("_law_near" : Str), ("_law_gcd" : Str), ("_law_fraction" : Str), ("_law_fr_plus" : Str), ("_law_fr_times" : Str), ("_law_number_some" : Str), ("_law_two_right" : Str), ("_law_floor_right" : Str), ("_law_right" : Str), ("law" : Str)]
def fnKinds : List DK := [.plain, .plain, .plain, .plain, .plain, .plain, .plain, .plain, .plain, .plain, .plain, .plain, .star, .plain, .plain, .plain, .plain, .plain, .plain, .plain, .plain, .plain, .plain, .plain, .frsh, .mutd, .mutd, .mutd, .plain, .plain, .plain, .plain, .mutd, .plain, .plain, .mutd, .plain]
def gcNames : List Str := [("GREATEST" : Str), ("PAIR_SIZE" : Str)]
def GG : List D := [.int (1000000000000000000000000000000000000000000000000000000000000), .int (2)]
def SK0 : CK := ⟨[], fnNames, fnKinds, gcNames⟩
def d_is_whole_N : List Str := [("value" : Str)]
def d_is_whole_b : List IS := [.ret (.and (.isi 0 (.pk 0)) (.not (.isi 1 (.pk 0))))]
def d_is_whole : FI := ⟨d_is_whole_N, 1, .plain, d_is_whole_b⟩
def d_is_short_N : List Str := [("value" : Str)]
def d_is_short_b : List IS := [.ret (.and (.call 0 [.var 0]) (.chn .lt .lt (.neg (.gc 0)) (.var 0) (.gc 0)))]
def d_is_short : FI := ⟨d_is_short_N, 1, .plain, d_is_short_b⟩
def d_lowest_of_N : List Str := [("top" : Str), ("bottom" : Str), ("shared" : Str)]
def d_lowest_of_b : List IS := [.set 2 (.ite (.cmp .gt (.pk 1) (.int 0)) (.bi .gcd [.pk 0, .pk 1]) (.neg (.bi .gcd [.pk 0, .pk 1]))), .ret (.tup [.op .fdiv (.pk 0) (.pk 2), .op .fdiv (.pk 1) (.pk 2)])]
def d_lowest_of : FI := ⟨d_lowest_of_N, 2, .plain, d_lowest_of_b⟩
def d_fraction_of_N : List Str := [("number" : Str)]
def d_fraction_of_b : List IS := [.ret (.ite (.isi 2 (.pk 0)) (.var 0) (.tup [.var 0, .int 1]))]
def d_fraction_of : FI := ⟨d_fraction_of_N, 1, .plain, d_fraction_of_b⟩
def d_plus_of_N : List Str := [("one" : Str), ("other" : Str)]
def d_plus_of_b : List IS := [.ret (.call 2 [.op .add (.op .mul (.ix (.pk 0) (.int 0)) (.ix (.pk 1) (.int 1))) (.op .mul (.ix (.pk 1) (.int 0)) (.ix (.pk 0) (.int 1))), .op .mul (.ix (.pk 0) (.int 1)) (.ix (.pk 1) (.int 1))])]
def d_plus_of : FI := ⟨d_plus_of_N, 2, .plain, d_plus_of_b⟩
def d_minus_of_N : List Str := [("one" : Str), ("other" : Str)]
def d_minus_of_b : List IS := [.ret (.call 2 [.op .sub (.op .mul (.ix (.pk 0) (.int 0)) (.ix (.pk 1) (.int 1))) (.op .mul (.ix (.pk 1) (.int 0)) (.ix (.pk 0) (.int 1))), .op .mul (.ix (.pk 0) (.int 1)) (.ix (.pk 1) (.int 1))])]
def d_minus_of : FI := ⟨d_minus_of_N, 2, .plain, d_minus_of_b⟩
def d_times_of_N : List Str := [("one" : Str), ("other" : Str)]
def d_times_of_b : List IS := [.ret (.call 2 [.op .mul (.ix (.pk 0) (.int 0)) (.ix (.pk 1) (.int 0)), .op .mul (.ix (.pk 0) (.int 1)) (.ix (.pk 1) (.int 1))])]
def d_times_of : FI := ⟨d_times_of_N, 2, .plain, d_times_of_b⟩
def d_over_of_N : List Str := [("one" : Str), ("other" : Str)]
def d_over_of_b : List IS := [.ret (.call 2 [.op .mul (.ix (.pk 0) (.int 0)) (.ix (.pk 1) (.int 1)), .op .mul (.ix (.pk 0) (.int 1)) (.ix (.pk 1) (.int 0))])]
def d_over_of : FI := ⟨d_over_of_N, 2, .plain, d_over_of_b⟩
def d_compared_of_N : List Str := [("one" : Str), ("other" : Str), ("left" : Str), ("right" : Str)]
def d_compared_of_b : List IS := [.par 2 3 (.op .mul (.ix (.pk 0) (.int 0)) (.ix (.pk 1) (.int 1))) (.op .mul (.ix (.pk 1) (.int 0)) (.ix (.pk 0) (.int 1))), .ret (.op .sub (.bi .int [.cmp .gt (.pk 2) (.pk 3)]) (.bi .int [.cmp .lt (.pk 2) (.pk 3)]))]
def d_compared_of : FI := ⟨d_compared_of_N, 2, .plain, d_compared_of_b⟩
def d_floor_in_N : List Str := [("fraction" : Str)]
def d_floor_in_b : List IS := [.ret (.op .fdiv (.ix (.pk 0) (.int 0)) (.ix (.pk 0) (.int 1)))]
def d_floor_in : FI := ⟨d_floor_in_N, 1, .plain, d_floor_in_b⟩
def d_rest_in_N : List Str := [("fraction" : Str)]
def d_rest_in_b : List IS := [.ret (.tup [.op .mod (.ix (.pk 0) (.int 0)) (.ix (.pk 0) (.int 1)), .ix (.pk 0) (.int 1)])]
def d_rest_in : FI := ⟨d_rest_in_N, 1, .plain, d_rest_in_b⟩
def d_is_fraction_any_N : List Str := [("value" : Str), ("entry" : Str)]
def d_is_fraction_any_b : List IS := [.iff (.or (.not (.isi 2 (.pk 0))) (.or (.cmp .ne (.bi .len [.pk 0]) (.gc 1)) (.not (.bi .all [.lc (.call 0 [.var 1]) [1] .seq [.var 0] .nop])))) [.ret (.bl false)] [], .ret (.and (.cmp .gt (.ix (.pk 0) (.int 1)) (.int 0)) (.cmp .eq (.bi .gcd [.ix (.pk 0) (.int 0), .ix (.pk 0) (.int 1)]) (.int 1)))]
def d_is_fraction_any : FI := ⟨d_is_fraction_any_N, 1, .plain, d_is_fraction_any_b⟩
def d_require_numbers_N : List Str := [("values" : Str), ("value" : Str)]
def d_require_numbers_b : List IS := [.iff (.not (.bi .all [.lc (.call 15 [.var 1]) [1] .seq [.var 0] .nop])) [.never] []]
def d_require_numbers : FI := ⟨d_require_numbers_N, 1, .star, d_require_numbers_b⟩
def d_is_integer_N : List Str := [("value" : Str)]
def d_is_integer_b : List IS := [.ret (.call 1 [.var 0])]
def d_is_integer : FI := ⟨d_is_integer_N, 1, .plain, d_is_integer_b⟩
def d_is_fraction_N : List Str := [("value" : Str)]
def d_is_fraction_b : List IS := [.ret (.and (.call 11 [.var 0]) (.and (.call 1 [.ix (.pk 0) (.int 0)]) (.call 1 [.ix (.pk 0) (.int 1)])))]
def d_is_fraction : FI := ⟨d_is_fraction_N, 1, .plain, d_is_fraction_b⟩
def d_is_number_N : List Str := [("value" : Str)]
def d_is_number_b : List IS := [.ret (.or (.call 13 [.var 0]) (.call 14 [.var 0]))]
def d_is_number : FI := ⟨d_is_number_N, 1, .plain, d_is_number_b⟩
def d_lowest_N : List Str := [("top" : Str), ("bottom" : Str)]
def d_lowest_b : List IS := [.iff (.not (.call 13 [.var 0])) [.never] [], .iff (.or (.not (.call 13 [.var 1])) (.cmp .eq (.pk 1) (.int 0))) [.never] [], .ret (.call 2 [.var 0, .var 1])]
def d_lowest : FI := ⟨d_lowest_N, 2, .plain, d_lowest_b⟩
def d_plus_N : List Str := [("one" : Str), ("other" : Str)]
def d_plus_b : List IS := [.ex (.calls 12 [.var 0, .var 1]), .ret (.call 4 [.call 3 [.var 0], .call 3 [.var 1]])]
def d_plus : FI := ⟨d_plus_N, 2, .plain, d_plus_b⟩
def d_minus_N : List Str := [("one" : Str), ("other" : Str)]
def d_minus_b : List IS := [.ex (.calls 12 [.var 0, .var 1]), .ret (.call 5 [.call 3 [.var 0], .call 3 [.var 1]])]
def d_minus : FI := ⟨d_minus_N, 2, .plain, d_minus_b⟩
def d_times_N : List Str := [("one" : Str), ("other" : Str)]
def d_times_b : List IS := [.ex (.calls 12 [.var 0, .var 1]), .ret (.call 6 [.call 3 [.var 0], .call 3 [.var 1]])]
def d_times : FI := ⟨d_times_N, 2, .plain, d_times_b⟩
def d_over_N : List Str := [("one" : Str), ("other" : Str)]
def d_over_b : List IS := [.ex (.calls 12 [.var 0, .var 1]), .iff (.cmp .eq (.ix (.call 3 [.var 1]) (.int 0)) (.int 0)) [.never] [], .ret (.call 7 [.call 3 [.var 0], .call 3 [.var 1]])]
def d_over : FI := ⟨d_over_N, 2, .plain, d_over_b⟩
def d_compare_N : List Str := [("one" : Str), ("other" : Str)]
def d_compare_b : List IS := [.ex (.calls 12 [.var 0, .var 1]), .ret (.call 8 [.call 3 [.var 0], .call 3 [.var 1]])]
def d_compare : FI := ⟨d_compare_N, 2, .plain, d_compare_b⟩
def d_floor_of_N : List Str := [("number" : Str)]
def d_floor_of_b : List IS := [.ex (.calls 12 [.var 0]), .ret (.call 9 [.call 3 [.var 0]])]
def d_floor_of : FI := ⟨d_floor_of_N, 1, .plain, d_floor_of_b⟩
def d_rest_of_N : List Str := [("number" : Str)]
def d_rest_of_b : List IS := [.ex (.calls 12 [.var 0]), .ret (.call 10 [.call 3 [.var 0]])]
def d_rest_of : FI := ⟨d_rest_of_N, 1, .plain, d_rest_of_b⟩
def d_law_dice_N : List Str := [("script" : Str), ("spot" : Str), ("cell" : Str), ("left" : Str)]
def d_law_dice_b : List IS := [.set 2 (.ite (.cmp .lt (.pk 1) (.bi .len [.pk 0])) (.bi .int [.ix (.pk 0) (.pk 1)]) (.op .add (.op .mul (.int 89) (.pk 1)) (.int 71))), .set 3 (.op .mod (.bi .max2 [.int 0, .op .sub (.bi .abs [.pk 2]) (.op .pow (.int 10) (.int 17))]) (.op .mul (.op .pow (.int 10) (.int 57)) (.op .pow (.int 10) (.int 60)))), .ret (.lst [.var 3, .op .add (.op .add (.op .add (.op .mul (.op .mod (.bi .abs [.pk 2]) (.int 1152921504606846869)) (.int 71)) (.op .mul (.int 1009) (.pk 1))) (.op .mul (.int 43) (.bi .int [.cmp .lt (.pk 2) (.int 0)]))) (.int 31), .int 0])]
def d_law_dice : FI := ⟨d_law_dice_N, 2, .frsh, d_law_dice_b⟩
def d_law_roll_N : List Str := [("dice" : Str), ("total" : Str), ("one" : Str), ("two" : Str), ("found" : Str)]
def d_law_roll_b : List IS := [.iff (.cmp .gt (.ix (.pk 0) (.int 0)) (.int 0)) [.set 4 (.op .mod (.bi .int [.ix (.pk 0) (.int 0)]) (.pk 1)), .setix 0 (.int 0) (.op .fdiv (.ix (.pk 0) (.int 0)) (.pk 1)), .ret (.var 4)] [], .setix 0 (.int 2) (.op .add (.ix (.pk 0) (.int 2)) (.int 1)), .set 2 (.op .mod (.bi .int [.op .add (.ix (.pk 0) (.int 1)) (.op .mul (.int 86028121) (.ix (.pk 0) (.int 2)))]) (.int 2305843009213693669)), .set 3 (.op .add (.op .mul (.op .mod (.bi .int [.op .add (.op .mul (.pk 2) (.pk 2)) (.op .mul (.int 107) (.ix (.pk 0) (.int 2)))]) (.int 2305843009213693487)) (.int 7368787)) (.pk 2)), .ret (.op .mod (.bi .int [.op .fdiv (.pk 3) (.int 65551)]) (.pk 1))]
def d_law_roll : FI := ⟨d_law_roll_N, 2, .mutd, d_law_roll_b⟩
def d_law_pick_N : List Str := [("dice" : Str), ("items" : Str)]
def d_law_pick_b : List IS := [.ret (.ix (.pk 1) (.mcall 25 0 [.bi .len [.pk 1]]))]
def d_law_pick : FI := ⟨d_law_pick_N, 2, .mutd, d_law_pick_b⟩
def d_law_near_N : List Str := [("dice" : Str), ("most" : Str)]
def d_law_near_b : List IS := [.ret (.op .sub (.mcall 25 0 [.op .add (.op .mul (.int 2) (.pk 1)) (.int 1)]) (.pk 1))]
def d_law_near : FI := ⟨d_law_near_N, 2, .mutd, d_law_near_b⟩
def d_law_gcd_N : List Str := [("one" : Str), ("other" : Str)]
def d_law_gcd_b : List IS := [.par 0 1 (.bi .abs [.pk 0]) (.bi .abs [.pk 1]), .whl (.cmp .gt (.pk 1) (.int 0)) [.par 0 1 (.var 1) (.op .mod (.bi .int [.pk 0]) (.pk 1))], .ret (.var 0)]
def d_law_gcd : FI := ⟨d_law_gcd_N, 2, .plain, d_law_gcd_b⟩
def d_law_fraction_N : List Str := [("top" : Str), ("bottom" : Str), ("shared" : Str)]
def d_law_fraction_b : List IS := [.set 2 (.call 28 [.var 0, .var 1]), .iff (.cmp .lt (.pk 1) (.int 0)) [.set 2 (.op .sub (.int 0) (.pk 2))] [], .ret (.tup [.op .fdiv (.pk 0) (.pk 2), .op .fdiv (.pk 1) (.pk 2)])]
def d_law_fraction : FI := ⟨d_law_fraction_N, 2, .plain, d_law_fraction_b⟩
def d_law_fr_plus_N : List Str := [("one" : Str), ("other" : Str)]
def d_law_fr_plus_b : List IS := [.ret (.call 29 [.op .add (.op .mul (.ix (.pk 0) (.int 0)) (.ix (.pk 1) (.int 1))) (.op .mul (.ix (.pk 1) (.int 0)) (.ix (.pk 0) (.int 1))), .op .mul (.ix (.pk 0) (.int 1)) (.ix (.pk 1) (.int 1))])]
def d_law_fr_plus : FI := ⟨d_law_fr_plus_N, 2, .plain, d_law_fr_plus_b⟩
def d_law_fr_times_N : List Str := [("one" : Str), ("other" : Str)]
def d_law_fr_times_b : List IS := [.ret (.call 29 [.op .mul (.ix (.pk 0) (.int 0)) (.ix (.pk 1) (.int 0)), .op .mul (.ix (.pk 0) (.int 1)) (.ix (.pk 1) (.int 1))])]
def d_law_fr_times : FI := ⟨d_law_fr_times_N, 2, .plain, d_law_fr_times_b⟩
def d_law_number_some_N : List Str := [("dice" : Str), ("most" : Str), ("found" : Str)]
def d_law_number_some_b : List IS := [.set 1 (.mcall 26 0 [.lst [.int 2, .int 9, .int 40, .op .pow (.int 10) (.int 20)]]), .set 2 (.call 29 [.mcall 27 0 [.var 1], .op .add (.int 1) (.mcall 25 0 [.mcall 26 0 [.lst [.int 1, .int 3, .int 12, .op .pow (.int 10) (.int 9)]]])]), .ret (.tup [.ite (.and (.cmp .eq (.ix (.pk 2) (.int 1)) (.int 1)) (.cmp .eq (.mcall 25 0 [.int 2]) (.int 0))) (.ix (.pk 2) (.int 0)) (.var 2), .var 2])]
def d_law_number_some : FI := ⟨d_law_number_some_N, 1, .mutd, d_law_number_some_b⟩
def d_law_two_right_N : List Str := [("one" : Str), ("other" : Str), ("total" : Str), ("product" : Str), ("due" : Str), ("left" : Str), ("right" : Str)]
def d_law_two_right_b : List IS := [.par 2 3 (.call 30 [.ix (.pk 0) (.int 1), .ix (.pk 1) (.int 1)]) (.call 31 [.ix (.pk 0) (.int 1), .ix (.pk 1) (.int 1)]), .iff (.or (.cmp .ne (.call 17 [.ix (.pk 0) (.int 0), .ix (.pk 1) (.int 0)]) (.pk 2)) (.or (.cmp .ne (.call 18 [.var 2, .ix (.pk 1) (.int 0)]) (.ix (.pk 0) (.int 1))) (.cmp .ne (.call 19 [.ix (.pk 0) (.int 0), .ix (.pk 1) (.int 0)]) (.pk 3)))) [.ret (.bl false)] [], .iff (.cmp .ne (.ix (.ix (.pk 1) (.int 1)) (.int 0)) (.int 0)) [.set 4 (.call 29 [.op .mul (.ix (.ix (.pk 0) (.int 1)) (.int 0)) (.ix (.ix (.pk 1) (.int 1)) (.int 1)), .op .mul (.ix (.ix (.pk 0) (.int 1)) (.int 1)) (.ix (.ix (.pk 1) (.int 1)) (.int 0))]), .iff (.or (.cmp .ne (.call 20 [.var 3, .ix (.pk 1) (.int 0)]) (.ix (.pk 0) (.int 1))) (.cmp .ne (.call 20 [.ix (.pk 0) (.int 0), .ix (.pk 1) (.int 0)]) (.pk 4))) [.ret (.bl false)] []] [], .par 5 6 (.op .mul (.ix (.ix (.pk 0) (.int 1)) (.int 0)) (.ix (.ix (.pk 1) (.int 1)) (.int 1))) (.op .mul (.ix (.ix (.pk 1) (.int 1)) (.int 0)) (.ix (.ix (.pk 0) (.int 1)) (.int 1))), .ret (.cmp .eq (.call 21 [.ix (.pk 0) (.int 0), .ix (.pk 1) (.int 0)]) (.op .sub (.bi .int [.cmp .gt (.pk 5) (.pk 6)]) (.bi .int [.cmp .lt (.pk 5) (.pk 6)])))]
def d_law_two_right : FI := ⟨d_law_two_right_N, 2, .plain, d_law_two_right_b⟩
def d_law_floor_right_N : List Str := [("one" : Str), ("whole" : Str)]
def d_law_floor_right_b : List IS := [.set 1 (.op .fdiv (.ix (.ix (.pk 0) (.int 1)) (.int 0)) (.ix (.ix (.pk 0) (.int 1)) (.int 1))), .iff (.or (.cmp .ne (.call 22 [.ix (.pk 0) (.int 0)]) (.pk 1)) (.cmp .ne (.call 23 [.ix (.pk 0) (.int 0)]) (.call 29 [.op .sub (.ix (.ix (.pk 0) (.int 1)) (.int 0)) (.op .mul (.pk 1) (.ix (.ix (.pk 0) (.int 1)) (.int 1))), .ix (.ix (.pk 0) (.int 1)) (.int 1)]))) [.ret (.bl false)] [], .ret (.and (.cmp .eq (.call 17 [.call 22 [.ix (.pk 0) (.int 0)], .call 23 [.ix (.pk 0) (.int 0)]]) (.ix (.pk 0) (.int 1))) (.cmp .eq (.call 21 [.call 23 [.ix (.pk 0) (.int 0)], .int 1]) (.neg (.int 1))))]
def d_law_floor_right : FI := ⟨d_law_floor_right_N, 1, .plain, d_law_floor_right_b⟩
def d_law_right_N : List Str := [("dice" : Str), ("one" : Str), ("other" : Str), ("top" : Str), ("bottom" : Str)]
def d_law_right_b : List IS := [.par 1 2 (.mcall 32 0 []) (.mcall 32 0 []), .par 3 4 (.mcall 27 0 [.op .pow (.int 10) (.int 14)]) (.op .add (.int 1) (.mcall 25 0 [.op .pow (.int 10) (.int 9)])), .iff (.or (.cmp .ne (.call 16 [.op .mul (.pk 3) (.pk 4), .op .sub (.int 0) (.pk 4)]) (.tup [.op .sub (.int 0) (.pk 3), .int 1])) (.cmp .ne (.call 16 [.var 3, .var 4]) (.call 29 [.var 3, .var 4]))) [.ret (.bl false)] [], .iff (.or (.not (.call 15 [.ix (.pk 1) (.int 0)])) (.or (.not (.call 14 [.ix (.pk 1) (.int 1)])) (.cmp .ne (.call 13 [.ix (.pk 1) (.int 0)]) (.isi 0 (.ix (.pk 1) (.int 0)))))) [.ret (.bl false)] [], .ret (.and (.call 33 [.var 1, .var 2]) (.and (.call 33 [.var 2, .var 1]) (.and (.call 34 [.var 1]) (.call 34 [.var 2]))))]
def d_law_right : FI := ⟨d_law_right_N, 1, .mutd, d_law_right_b⟩
def d_law_N : List Str := [("script" : Str), ("spot" : Str), ("odd" : Str), ("told" : Str), ("value" : Str)]
def d_law_b : List IS := [.forr [1] .rng1 [.bi .max2 [.int 1, .bi .min2 [.int 6, .bi .len [.pk 0]]]] [.iff (.not (.tcall 35 (.fcall 24 [.var 0, .var 1]) [])) [.ret (.bl false)] []], .set 2 (.lst [.tup [.int 2, .int 4], .tup [.int 1, .int 0], .tup [.int 1, .neg (.int 2)], .tup [.int 0, .int 2], .tup [.int 1, .int 2, .int 3], .lst [.int 1, .int 2], .tup [.int 1], .str "1/2", .non, .tup [.bl true, .int 1], .tup [.int 1, .bl true], .tup [.op .pow (.int 10) (.int 60), .int 1], .bl true]), .iff (.cmp .ne (.lc (.var 4) [4] .seq [.var 2] (.or (.call 14 [.var 4]) (.call 15 [.var 4]))) (.lst [])) [.ret (.bl false)] [], .set 3 (.lc (.call 13 [.var 4]) [4] .seq [.tup [.int 0, .op .sub (.int 1) (.op .pow (.int 10) (.int 60)), .op .pow (.int 10) (.int 60), .bl true, .non, .str "1", .tup [.int 1], .tup [.int 1, .int 1]]] .nop), .iff (.or (.cmp .ne (.pk 3) (.op .add (.lst [.bl true, .bl true]) (.op .mul (.lst [.bl false]) (.int 6)))) (.or (.call 14 [.int 1]) (.or (.not (.call 15 [.int 1])) (.not (.call 15 [.tup [.int 1, .int 1]]))))) [.ret (.bl false)] [], .ret (.cmp .eq (.lst [.call 16 [.int 6, .neg (.int 4)], .call 22 [.tup [.neg (.int 3), .int 2]], .call 23 [.tup [.neg (.int 3), .int 2]], .call 23 [.int 4], .call 21 [.int 2, .tup [.int 2, .int 1]]]) (.lst [.tup [.neg (.int 3), .int 2], .neg (.int 2), .tup [.int 1, .int 2], .tup [.int 0, .int 1], .int 0]))]
def d_law : FI := ⟨d_law_N, 1, .plain, d_law_b⟩
def TT0 : List FI := [d_is_whole, d_is_short, d_lowest_of, d_fraction_of, d_plus_of, d_minus_of, d_times_of, d_over_of, d_compared_of, d_floor_in, d_rest_in, d_is_fraction_any, d_require_numbers, d_is_integer, d_is_fraction, d_is_number, d_lowest, d_plus, d_minus, d_times, d_over, d_compare, d_floor_of, d_rest_of, d_law_dice, d_law_roll, d_law_pick, d_law_near, d_law_gcd, d_law_fraction, d_law_fr_plus, d_law_fr_times, d_law_number_some, d_law_two_right, d_law_floor_right, d_law_right, d_law]
/-! ### the text is that of the IR -/
theorem d_is_whole_sc : FnScope d_is_whole_N [("value" : Str)] (defScope (top 8)) := ⟨rfl, rfl, rfl, by decide +kernel, rfl, by decide +kernel, by decide +kernel⟩
theorem d_is_whole_ck : chkSs { SK0 with N := d_is_whole.N } (defScope (top 8)) d_is_whole.body (defBody (top 8)) = true := by decide +kernel
theorem d_is_whole_st : St SK0 "is_whole" (top 8) d_is_whole := ⟨⟨[("value" : Str)], d_is_whole_sc, rfl, d_is_whole_ck, fun _ _ _ _ _ _ us hl => match us, hl with | [_], _ => rfl⟩⟩
theorem d_is_short_sc : FnScope d_is_short_N [("value" : Str)] (defScope (top 9)) := ⟨rfl, rfl, rfl, by decide +kernel, rfl, by decide +kernel, by decide +kernel⟩
theorem d_is_short_ck : chkSs { SK0 with N := d_is_short.N } (defScope (top 9)) d_is_short.body (defBody (top 9)) = true := by decide +kernel
theorem d_is_short_st : St SK0 "is_short" (top 9) d_is_short := ⟨⟨[("value" : Str)], d_is_short_sc, rfl, d_is_short_ck, fun _ _ _ _ _ _ us hl => match us, hl with | [_], _ => rfl⟩⟩
theorem d_lowest_of_sc : FnScope d_lowest_of_N [("top" : Str), ("bottom" : Str)] (defScope (top 12)) := ⟨rfl, rfl, rfl, by decide +kernel, rfl, by decide +kernel, by decide +kernel⟩
theorem d_lowest_of_ck : chkSs { SK0 with N := d_lowest_of.N } (defScope (top 12)) d_lowest_of.body (defBody (top 12)) = true := by decide +kernel
theorem d_lowest_of_st : St SK0 "lowest_of" (top 12) d_lowest_of := ⟨⟨[("top" : Str), ("bottom" : Str)], d_lowest_of_sc, rfl, d_lowest_of_ck, fun _ _ _ _ _ _ us hl => match us, hl with | [_, _], _ => rfl⟩⟩
theorem d_fraction_of_sc : FnScope d_fraction_of_N [("number" : Str)] (defScope (top 13)) := ⟨rfl, rfl, rfl, by decide +kernel, rfl, by decide +kernel, by decide +kernel⟩
theorem d_fraction_of_ck : chkSs { SK0 with N := d_fraction_of.N } (defScope (top 13)) d_fraction_of.body (defBody (top 13)) = true := by decide +kernel
theorem d_fraction_of_st : St SK0 "fraction_of" (top 13) d_fraction_of := ⟨⟨[("number" : Str)], d_fraction_of_sc, rfl, d_fraction_of_ck, fun _ _ _ _ _ _ us hl => match us, hl with | [_], _ => rfl⟩⟩
theorem d_plus_of_sc : FnScope d_plus_of_N [("one" : Str), ("other" : Str)] (defScope (top 14)) := ⟨rfl, rfl, rfl, by decide +kernel, rfl, by decide +kernel, by decide +kernel⟩
theorem d_plus_of_ck : chkSs { SK0 with N := d_plus_of.N } (defScope (top 14)) d_plus_of.body (defBody (top 14)) = true := by decide +kernel
theorem d_plus_of_st : St SK0 "plus_of" (top 14) d_plus_of := ⟨⟨[("one" : Str), ("other" : Str)], d_plus_of_sc, rfl, d_plus_of_ck, fun _ _ _ _ _ _ us hl => match us, hl with | [_, _], _ => rfl⟩⟩
theorem d_minus_of_sc : FnScope d_minus_of_N [("one" : Str), ("other" : Str)] (defScope (top 15)) := ⟨rfl, rfl, rfl, by decide +kernel, rfl, by decide +kernel, by decide +kernel⟩
theorem d_minus_of_ck : chkSs { SK0 with N := d_minus_of.N } (defScope (top 15)) d_minus_of.body (defBody (top 15)) = true := by decide +kernel
theorem d_minus_of_st : St SK0 "minus_of" (top 15) d_minus_of := ⟨⟨[("one" : Str), ("other" : Str)], d_minus_of_sc, rfl, d_minus_of_ck, fun _ _ _ _ _ _ us hl => match us, hl with | [_, _], _ => rfl⟩⟩
theorem d_times_of_sc : FnScope d_times_of_N [("one" : Str), ("other" : Str)] (defScope (top 16)) := ⟨rfl, rfl, rfl, by decide +kernel, rfl, by decide +kernel, by decide +kernel⟩
theorem d_times_of_ck : chkSs { SK0 with N := d_times_of.N } (defScope (top 16)) d_times_of.body (defBody (top 16)) = true := by decide +kernel
theorem d_times_of_st : St SK0 "times_of" (top 16) d_times_of := ⟨⟨[("one" : Str), ("other" : Str)], d_times_of_sc, rfl, d_times_of_ck, fun _ _ _ _ _ _ us hl => match us, hl with | [_, _], _ => rfl⟩⟩
theorem d_over_of_sc : FnScope d_over_of_N [("one" : Str), ("other" : Str)] (defScope (top 17)) := ⟨rfl, rfl, rfl, by decide +kernel, rfl, by decide +kernel, by decide +kernel⟩
theorem d_over_of_ck : chkSs { SK0 with N := d_over_of.N } (defScope (top 17)) d_over_of.body (defBody (top 17)) = true := by decide +kernel
theorem d_over_of_st : St SK0 "over_of" (top 17) d_over_of := ⟨⟨[("one" : Str), ("other" : Str)], d_over_of_sc, rfl, d_over_of_ck, fun _ _ _ _ _ _ us hl => match us, hl with | [_, _], _ => rfl⟩⟩
theorem d_compared_of_sc : FnScope d_compared_of_N [("one" : Str), ("other" : Str)] (defScope (top 18)) := ⟨rfl, rfl, rfl, by decide +kernel, rfl, by decide +kernel, by decide +kernel⟩
theorem d_compared_of_ck : chkSs { SK0 with N := d_compared_of.N } (defScope (top 18)) d_compared_of.body (defBody (top 18)) = true := by decide +kernel
theorem d_compared_of_st : St SK0 "compared_of" (top 18) d_compared_of := ⟨⟨[("one" : Str), ("other" : Str)], d_compared_of_sc, rfl, d_compared_of_ck, fun _ _ _ _ _ _ us hl => match us, hl with | [_, _], _ => rfl⟩⟩
theorem d_floor_in_sc : FnScope d_floor_in_N [("fraction" : Str)] (defScope (top 19)) := ⟨rfl, rfl, rfl, by decide +kernel, rfl, by decide +kernel, by decide +kernel⟩
theorem d_floor_in_ck : chkSs { SK0 with N := d_floor_in.N } (defScope (top 19)) d_floor_in.body (defBody (top 19)) = true := by decide +kernel
theorem d_floor_in_st : St SK0 "floor_in" (top 19) d_floor_in := ⟨⟨[("fraction" : Str)], d_floor_in_sc, rfl, d_floor_in_ck, fun _ _ _ _ _ _ us hl => match us, hl with | [_], _ => rfl⟩⟩
theorem d_rest_in_sc : FnScope d_rest_in_N [("fraction" : Str)] (defScope (top 20)) := ⟨rfl, rfl, rfl, by decide +kernel, rfl, by decide +kernel, by decide +kernel⟩
theorem d_rest_in_ck : chkSs { SK0 with N := d_rest_in.N } (defScope (top 20)) d_rest_in.body (defBody (top 20)) = true := by decide +kernel
theorem d_rest_in_st : St SK0 "rest_in" (top 20) d_rest_in := ⟨⟨[("fraction" : Str)], d_rest_in_sc, rfl, d_rest_in_ck, fun _ _ _ _ _ _ us hl => match us, hl with | [_], _ => rfl⟩⟩
theorem d_is_fraction_any_sc : FnScope d_is_fraction_any_N [("value" : Str)] (defScope (top 21)) := ⟨rfl, rfl, rfl, by decide +kernel, rfl, by decide +kernel, by decide +kernel⟩
theorem d_is_fraction_any_ck : chkSs { SK0 with N := d_is_fraction_any.N } (defScope (top 21)) d_is_fraction_any.body (defBody (top 21)) = true := by decide +kernel
theorem d_is_fraction_any_st : St SK0 "is_fraction_any" (top 21) d_is_fraction_any := ⟨⟨[("value" : Str)], d_is_fraction_any_sc, rfl, d_is_fraction_any_ck, fun _ _ _ _ _ _ us hl => match us, hl with | [_], _ => rfl⟩⟩
theorem d_require_numbers_sc : FnScope d_require_numbers_N [("values" : Str)] (defScope (top 22)) := ⟨rfl, rfl, rfl, by decide +kernel, rfl, by decide +kernel, by decide +kernel⟩
theorem d_require_numbers_ck : chkSs { SK0 with N := d_require_numbers.N } (defScope (top 22)) d_require_numbers.body (defBody (top 22)) = true := by decide +kernel
theorem d_require_numbers_st : St SK0 "require_numbers" (top 22) d_require_numbers := ⟨⟨[("values" : Str)], d_require_numbers_sc, rfl, d_require_numbers_ck, ⟨_, rfl, fun _ _ _ _ _ _ us => match us with | [] => rfl | _ :: _ => rfl⟩⟩⟩
theorem d_is_integer_sc : FnScope d_is_integer_N [("value" : Str)] (defScope (top 23)) := ⟨rfl, rfl, rfl, by decide +kernel, rfl, by decide +kernel, by decide +kernel⟩
theorem d_is_integer_ck : chkSs { SK0 with N := d_is_integer.N } (defScope (top 23)) d_is_integer.body (defBody (top 23)) = true := by decide +kernel
theorem d_is_integer_st : St SK0 "is_integer" (top 23) d_is_integer := ⟨⟨[("value" : Str)], d_is_integer_sc, rfl, d_is_integer_ck, fun _ _ _ _ _ _ us hl => match us, hl with | [_], _ => rfl⟩⟩
theorem d_is_fraction_sc : FnScope d_is_fraction_N [("value" : Str)] (defScope (top 24)) := ⟨rfl, rfl, rfl, by decide +kernel, rfl, by decide +kernel, by decide +kernel⟩
theorem d_is_fraction_ck : chkSs { SK0 with N := d_is_fraction.N } (defScope (top 24)) d_is_fraction.body (defBody (top 24)) = true := by decide +kernel
theorem d_is_fraction_st : St SK0 "is_fraction" (top 24) d_is_fraction := ⟨⟨[("value" : Str)], d_is_fraction_sc, rfl, d_is_fraction_ck, fun _ _ _ _ _ _ us hl => match us, hl with | [_], _ => rfl⟩⟩
theorem d_is_number_sc : FnScope d_is_number_N [("value" : Str)] (defScope (top 25)) := ⟨rfl, rfl, rfl, by decide +kernel, rfl, by decide +kernel, by decide +kernel⟩
theorem d_is_number_ck : chkSs { SK0 with N := d_is_number.N } (defScope (top 25)) d_is_number.body (defBody (top 25)) = true := by decide +kernel
theorem d_is_number_st : St SK0 "is_number" (top 25) d_is_number := ⟨⟨[("value" : Str)], d_is_number_sc, rfl, d_is_number_ck, fun _ _ _ _ _ _ us hl => match us, hl with | [_], _ => rfl⟩⟩
theorem d_lowest_sc : FnScope d_lowest_N [("top" : Str), ("bottom" : Str)] (defScope (top 26)) := ⟨rfl, rfl, rfl, by decide +kernel, rfl, by decide +kernel, by decide +kernel⟩
theorem d_lowest_ck : chkSs { SK0 with N := d_lowest.N } (defScope (top 26)) d_lowest.body (defBody (top 26)) = true := by decide +kernel
theorem d_lowest_st : St SK0 "lowest" (top 26) d_lowest := ⟨⟨[("top" : Str), ("bottom" : Str)], d_lowest_sc, rfl, d_lowest_ck, fun _ _ _ _ _ _ us hl => match us, hl with | [_, _], _ => rfl⟩⟩
theorem d_plus_sc : FnScope d_plus_N [("one" : Str), ("other" : Str)] (defScope (top 27)) := ⟨rfl, rfl, rfl, by decide +kernel, rfl, by decide +kernel, by decide +kernel⟩
theorem d_plus_ck : chkSs { SK0 with N := d_plus.N } (defScope (top 27)) d_plus.body (defBody (top 27)) = true := by decide +kernel
theorem d_plus_st : St SK0 "plus" (top 27) d_plus := ⟨⟨[("one" : Str), ("other" : Str)], d_plus_sc, rfl, d_plus_ck, fun _ _ _ _ _ _ us hl => match us, hl with | [_, _], _ => rfl⟩⟩
theorem d_minus_sc : FnScope d_minus_N [("one" : Str), ("other" : Str)] (defScope (top 28)) := ⟨rfl, rfl, rfl, by decide +kernel, rfl, by decide +kernel, by decide +kernel⟩
theorem d_minus_ck : chkSs { SK0 with N := d_minus.N } (defScope (top 28)) d_minus.body (defBody (top 28)) = true := by decide +kernel
theorem d_minus_st : St SK0 "minus" (top 28) d_minus := ⟨⟨[("one" : Str), ("other" : Str)], d_minus_sc, rfl, d_minus_ck, fun _ _ _ _ _ _ us hl => match us, hl with | [_, _], _ => rfl⟩⟩
theorem d_times_sc : FnScope d_times_N [("one" : Str), ("other" : Str)] (defScope (top 29)) := ⟨rfl, rfl, rfl, by decide +kernel, rfl, by decide +kernel, by decide +kernel⟩
theorem d_times_ck : chkSs { SK0 with N := d_times.N } (defScope (top 29)) d_times.body (defBody (top 29)) = true := by decide +kernel
theorem d_times_st : St SK0 "times" (top 29) d_times := ⟨⟨[("one" : Str), ("other" : Str)], d_times_sc, rfl, d_times_ck, fun _ _ _ _ _ _ us hl => match us, hl with | [_, _], _ => rfl⟩⟩
theorem d_over_sc : FnScope d_over_N [("one" : Str), ("other" : Str)] (defScope (top 30)) := ⟨rfl, rfl, rfl, by decide +kernel, rfl, by decide +kernel, by decide +kernel⟩
theorem d_over_ck : chkSs { SK0 with N := d_over.N } (defScope (top 30)) d_over.body (defBody (top 30)) = true := by decide +kernel
theorem d_over_st : St SK0 "over" (top 30) d_over := ⟨⟨[("one" : Str), ("other" : Str)], d_over_sc, rfl, d_over_ck, fun _ _ _ _ _ _ us hl => match us, hl with | [_, _], _ => rfl⟩⟩
theorem d_compare_sc : FnScope d_compare_N [("one" : Str), ("other" : Str)] (defScope (top 31)) := ⟨rfl, rfl, rfl, by decide +kernel, rfl, by decide +kernel, by decide +kernel⟩
theorem d_compare_ck : chkSs { SK0 with N := d_compare.N } (defScope (top 31)) d_compare.body (defBody (top 31)) = true := by decide +kernel
theorem d_compare_st : St SK0 "compare" (top 31) d_compare := ⟨⟨[("one" : Str), ("other" : Str)], d_compare_sc, rfl, d_compare_ck, fun _ _ _ _ _ _ us hl => match us, hl with | [_, _], _ => rfl⟩⟩
theorem d_floor_of_sc : FnScope d_floor_of_N [("number" : Str)] (defScope (top 32)) := ⟨rfl, rfl, rfl, by decide +kernel, rfl, by decide +kernel, by decide +kernel⟩
theorem d_floor_of_ck : chkSs { SK0 with N := d_floor_of.N } (defScope (top 32)) d_floor_of.body (defBody (top 32)) = true := by decide +kernel
theorem d_floor_of_st : St SK0 "floor_of" (top 32) d_floor_of := ⟨⟨[("number" : Str)], d_floor_of_sc, rfl, d_floor_of_ck, fun _ _ _ _ _ _ us hl => match us, hl with | [_], _ => rfl⟩⟩
theorem d_rest_of_sc : FnScope d_rest_of_N [("number" : Str)] (defScope (top 33)) := ⟨rfl, rfl, rfl, by decide +kernel, rfl, by decide +kernel, by decide +kernel⟩
theorem d_rest_of_ck : chkSs { SK0 with N := d_rest_of.N } (defScope (top 33)) d_rest_of.body (defBody (top 33)) = true := by decide +kernel
theorem d_rest_of_st : St SK0 "rest_of" (top 33) d_rest_of := ⟨⟨[("number" : Str)], d_rest_of_sc, rfl, d_rest_of_ck, fun _ _ _ _ _ _ us hl => match us, hl with | [_], _ => rfl⟩⟩
theorem d_law_dice_sc : FnScope d_law_dice_N [("script" : Str), ("spot" : Str)] (defScope (top 35)) := ⟨rfl, rfl, rfl, by decide +kernel, rfl, by decide +kernel, by decide +kernel⟩
theorem d_law_dice_ck : chkSs { SK0 with N := d_law_dice.N } (defScope (top 35)) d_law_dice.body (defBody (top 35)) = true := by decide +kernel
theorem d_law_dice_st : St SK0 "_law_dice" (top 35) d_law_dice := ⟨⟨[("script" : Str), ("spot" : Str)], d_law_dice_sc, rfl, d_law_dice_ck, fun _ _ _ _ _ _ us hl => match us, hl with | [_, _], _ => rfl⟩⟩
theorem d_law_roll_sc : FnScope d_law_roll_N [("dice" : Str), ("total" : Str)] (defScope (top 36)) := ⟨rfl, rfl, rfl, by decide +kernel, rfl, by decide +kernel, by decide +kernel⟩
theorem d_law_roll_ck : chkSs { SK0 with N := d_law_roll.N } (defScope (top 36)) d_law_roll.body (defBody (top 36)) = true := by decide +kernel
theorem d_law_roll_st : St SK0 "_law_roll" (top 36) d_law_roll := ⟨⟨[("dice" : Str), ("total" : Str)], d_law_roll_sc, rfl, d_law_roll_ck, fun _ _ _ _ _ _ us hl => match us, hl with | [_, _], _ => rfl⟩⟩
theorem d_law_pick_sc : FnScope d_law_pick_N [("dice" : Str), ("items" : Str)] (defScope (top 37)) := ⟨rfl, rfl, rfl, by decide +kernel, rfl, by decide +kernel, by decide +kernel⟩
theorem d_law_pick_ck : chkSs { SK0 with N := d_law_pick.N } (defScope (top 37)) d_law_pick.body (defBody (top 37)) = true := by decide +kernel
theorem d_law_pick_st : St SK0 "_law_pick" (top 37) d_law_pick := ⟨⟨[("dice" : Str), ("items" : Str)], d_law_pick_sc, rfl, d_law_pick_ck, fun _ _ _ _ _ _ us hl => match us, hl with | [_, _], _ => rfl⟩⟩
theorem d_law_near_sc : FnScope d_law_near_N [("dice" : Str), ("most" : Str)] (defScope (top 38)) := ⟨rfl, rfl, rfl, by decide +kernel, rfl, by decide +kernel, by decide +kernel⟩
theorem d_law_near_ck : chkSs { SK0 with N := d_law_near.N } (defScope (top 38)) d_law_near.body (defBody (top 38)) = true := by decide +kernel
theorem d_law_near_st : St SK0 "_law_near" (top 38) d_law_near := ⟨⟨[("dice" : Str), ("most" : Str)], d_law_near_sc, rfl, d_law_near_ck, fun _ _ _ _ _ _ us hl => match us, hl with | [_, _], _ => rfl⟩⟩
theorem d_law_gcd_sc : FnScope d_law_gcd_N [("one" : Str), ("other" : Str)] (defScope (top 39)) := ⟨rfl, rfl, rfl, by decide +kernel, rfl, by decide +kernel, by decide +kernel⟩
theorem d_law_gcd_ck : chkSs { SK0 with N := d_law_gcd.N } (defScope (top 39)) d_law_gcd.body (defBody (top 39)) = true := by decide +kernel
theorem d_law_gcd_st : St SK0 "_law_gcd" (top 39) d_law_gcd := ⟨⟨[("one" : Str), ("other" : Str)], d_law_gcd_sc, rfl, d_law_gcd_ck, fun _ _ _ _ _ _ us hl => match us, hl with | [_, _], _ => rfl⟩⟩
theorem d_law_fraction_sc : FnScope d_law_fraction_N [("top" : Str), ("bottom" : Str)] (defScope (top 40)) := ⟨rfl, rfl, rfl, by decide +kernel, rfl, by decide +kernel, by decide +kernel⟩
theorem d_law_fraction_ck : chkSs { SK0 with N := d_law_fraction.N } (defScope (top 40)) d_law_fraction.body (defBody (top 40)) = true := by decide +kernel
theorem d_law_fraction_st : St SK0 "_law_fraction" (top 40) d_law_fraction := ⟨⟨[("top" : Str), ("bottom" : Str)], d_law_fraction_sc, rfl, d_law_fraction_ck, fun _ _ _ _ _ _ us hl => match us, hl with | [_, _], _ => rfl⟩⟩
theorem d_law_fr_plus_sc : FnScope d_law_fr_plus_N [("one" : Str), ("other" : Str)] (defScope (top 41)) := ⟨rfl, rfl, rfl, by decide +kernel, rfl, by decide +kernel, by decide +kernel⟩
theorem d_law_fr_plus_ck : chkSs { SK0 with N := d_law_fr_plus.N } (defScope (top 41)) d_law_fr_plus.body (defBody (top 41)) = true := by decide +kernel
theorem d_law_fr_plus_st : St SK0 "_law_fr_plus" (top 41) d_law_fr_plus := ⟨⟨[("one" : Str), ("other" : Str)], d_law_fr_plus_sc, rfl, d_law_fr_plus_ck, fun _ _ _ _ _ _ us hl => match us, hl with | [_, _], _ => rfl⟩⟩
theorem d_law_fr_times_sc : FnScope d_law_fr_times_N [("one" : Str), ("other" : Str)] (defScope (top 42)) := ⟨rfl, rfl, rfl, by decide +kernel, rfl, by decide +kernel, by decide +kernel⟩
theorem d_law_fr_times_ck : chkSs { SK0 with N := d_law_fr_times.N } (defScope (top 42)) d_law_fr_times.body (defBody (top 42)) = true := by decide +kernel
theorem d_law_fr_times_st : St SK0 "_law_fr_times" (top 42) d_law_fr_times := ⟨⟨[("one" : Str), ("other" : Str)], d_law_fr_times_sc, rfl, d_law_fr_times_ck, fun _ _ _ _ _ _ us hl => match us, hl with | [_, _], _ => rfl⟩⟩
theorem d_law_number_some_sc : FnScope d_law_number_some_N [("dice" : Str)] (defScope (top 43)) := ⟨rfl, rfl, rfl, by decide +kernel, rfl, by decide +kernel, by decide +kernel⟩
theorem d_law_number_some_ck : chkSs { SK0 with N := d_law_number_some.N } (defScope (top 43)) d_law_number_some.body (defBody (top 43)) = true := by decide +kernel
theorem d_law_number_some_st : St SK0 "_law_number_some" (top 43) d_law_number_some := ⟨⟨[("dice" : Str)], d_law_number_some_sc, rfl, d_law_number_some_ck, fun _ _ _ _ _ _ us hl => match us, hl with | [_], _ => rfl⟩⟩
theorem d_law_two_right_sc : FnScope d_law_two_right_N [("one" : Str), ("other" : Str)] (defScope (top 44)) := ⟨rfl, rfl, rfl, by decide +kernel, rfl, by decide +kernel, by decide +kernel⟩
theorem d_law_two_right_ck : chkSs { SK0 with N := d_law_two_right.N } (defScope (top 44)) d_law_two_right.body (defBody (top 44)) = true := by decide +kernel
theorem d_law_two_right_st : St SK0 "_law_two_right" (top 44) d_law_two_right := ⟨⟨[("one" : Str), ("other" : Str)], d_law_two_right_sc, rfl, d_law_two_right_ck, fun _ _ _ _ _ _ us hl => match us, hl with | [_, _], _ => rfl⟩⟩
theorem d_law_floor_right_sc : FnScope d_law_floor_right_N [("one" : Str)] (defScope (top 45)) := ⟨rfl, rfl, rfl, by decide +kernel, rfl, by decide +kernel, by decide +kernel⟩
theorem d_law_floor_right_ck : chkSs { SK0 with N := d_law_floor_right.N } (defScope (top 45)) d_law_floor_right.body (defBody (top 45)) = true := by decide +kernel
theorem d_law_floor_right_st : St SK0 "_law_floor_right" (top 45) d_law_floor_right := ⟨⟨[("one" : Str)], d_law_floor_right_sc, rfl, d_law_floor_right_ck, fun _ _ _ _ _ _ us hl => match us, hl with | [_], _ => rfl⟩⟩
theorem d_law_right_sc : FnScope d_law_right_N [("dice" : Str)] (defScope (top 46)) := ⟨rfl, rfl, rfl, by decide +kernel, rfl, by decide +kernel, by decide +kernel⟩
theorem d_law_right_ck : chkSs { SK0 with N := d_law_right.N } (defScope (top 46)) d_law_right.body (defBody (top 46)) = true := by decide +kernel
theorem d_law_right_st : St SK0 "_law_right" (top 46) d_law_right := ⟨⟨[("dice" : Str)], d_law_right_sc, rfl, d_law_right_ck, fun _ _ _ _ _ _ us hl => match us, hl with | [_], _ => rfl⟩⟩
theorem d_law_sc : FnScope d_law_N [("script" : Str)] (defScope (top 47)) := ⟨rfl, rfl, rfl, by decide +kernel, rfl, by decide +kernel, by decide +kernel⟩
theorem d_law_ck : chkSs { SK0 with N := d_law.N } (defScope (top 47)) d_law.body (defBody (top 47)) = true := by decide +kernel
theorem d_law_st : St SK0 "law" (top 47) d_law := ⟨⟨[("script" : Str)], d_law_sc, rfl, d_law_ck, fun _ _ _ _ _ _ us hl => match us, hl with | [_], _ => rfl⟩⟩
def dsAll : List (Str × Stmt) := [(("is_whole" : Str), top 8), (("is_short" : Str), top 9), (("lowest_of" : Str), top 12), (("fraction_of" : Str), top 13), (("plus_of" : Str), top 14), (("minus_of" : Str), top 15), (("times_of" : Str), top 16), (("over_of" : Str), top 17), (("compared_of" : Str), top 18), (("floor_in" : Str), top 19), (("rest_in" : Str), top 20), (("is_fraction_any" : Str), top 21), (("require_numbers" : Str), top 22), (("is_integer" : Str), top 23), (("is_fraction" : Str), top 24), (("is_number" : Str), top 25), (("lowest" : Str), top 26), (("plus" : Str), top 27), (("minus" : Str), top 28), (("times" : Str), top 29), (("over" : Str), top 30), (("compare" : Str), top 31), (("floor_of" : Str), top 32), (("rest_of" : Str), top 33), (("_law_dice" : Str), top 35), (("_law_roll" : Str), top 36), (("_law_pick" : Str), top 37), (("_law_near" : Str), top 38), (("_law_gcd" : Str), top 39), (("_law_fraction" : Str), top 40), (("_law_fr_plus" : Str), top 41), (("_law_fr_times" : Str), top 42), (("_law_number_some" : Str), top 43), (("_law_two_right" : Str), top 44), (("_law_floor_right" : Str), top 45), (("_law_right" : Str), top 46), (("law" : Str), top 47)]
def csAll : List (Str × Int) := [(("GREATEST" : Str), (1000000000000000000000000000000000000000000000000000000000000 : Int)), (("PAIR_SIZE" : Str), (2 : Int))]
theorem all_st : StAll SK0 dsAll TT0 := ⟨d_is_whole_st, d_is_short_st, d_lowest_of_st, d_fraction_of_st, d_plus_of_st, d_minus_of_st, d_times_of_st, d_over_of_st, d_compared_of_st, d_floor_in_st, d_rest_in_st, d_is_fraction_any_st, d_require_numbers_st, d_is_integer_st, d_is_fraction_st, d_is_number_st, d_lowest_st, d_plus_st, d_minus_st, d_times_st, d_over_st, d_compare_st, d_floor_of_st, d_rest_of_st, d_law_dice_st, d_law_roll_st, d_law_pick_st, d_law_near_st, d_law_gcd_st, d_law_fraction_st, d_law_fr_plus_st, d_law_fr_times_st, d_law_number_some_st, d_law_two_right_st, d_law_floor_right_st, d_law_right_st, d_law_st, trivial⟩

end TT

set_option maxHeartbeats 0
namespace TT
open PySem L2 PySem.Spec PyProof.Rows
abbrev hR : PySem.W.OpenRow := PySem.W.OpenLaw.row PySem.Challenge.rw_tametrees_k00_whole_fractions
abbrev hq : Program := PySem.W.view hR.prog [0, 47]
def hfa : List He.Fa := faOf dsAll csAll
def hfn : List He.DefD := dsAll.map dOf
abbrev hk : PySem.W.Hook := hookM 4 hfa hfn exGcd
def hob (s : PySem.W.SharedT) : Bool × He.AlD := (exGcd (He.frG (HandSHeadRun.getT s) (He.asD (HandSHeadRun.getT s) 4)), He.obsDG 4 hfa hfn (HandSHeadRun.getT s))
theorem hob_eq (s : PySem.W.SharedT) : hob s = hk.obs s.abs := obsM_eq (HandSHeadRun.getT_eq s)
def hnames0 : List Str := [("TreeError" : Str), ("InvalidFraction" : Str), ("InvalidOperation" : Str), ("InvalidNumber" : Str), ("GREATEST" : Str), ("is_whole" : Str), ("is_short" : Str), ("PAIR_SIZE" : Str), ("lowest_of" : Str), ("fraction_of" : Str), ("plus_of" : Str), ("minus_of" : Str), ("times_of" : Str), ("over_of" : Str), ("compared_of" : Str), ("floor_in" : Str), ("rest_in" : Str), ("is_fraction_any" : Str), ("require_numbers" : Str), ("is_integer" : Str), ("is_fraction" : Str), ("is_number" : Str), ("lowest" : Str), ("plus" : Str), ("minus" : Str), ("times" : Str), ("over" : Str), ("compare" : Str), ("floor_of" : Str), ("rest_of" : Str), ("_law_dice" : Str), ("_law_roll" : Str), ("_law_pick" : Str), ("_law_near" : Str), ("_law_gcd" : Str), ("_law_fraction" : Str), ("_law_fr_plus" : Str), ("_law_fr_times" : Str), ("_law_number_some" : Str), ("_law_two_right" : Str)]
def hnames1 : List Str := [("_law_floor_right" : Str), ("_law_right" : Str)]
def hnames : List Str := hnames0 ++ hnames1
theorem hrun (w : World) : HandSHeadRun.RunEqI hR hq hk hob 8000 hnames w := by
  unfold HandSHeadRun.RunEqI
  kernel_rfl

end TT

set_option maxHeartbeats 4000000
namespace TT
open PySem
abbrev BB : Nat := 1000000000000000000000000000000000000000000000000000000000000
abbrev E60 : Int := 1000000000000000000000000000000000000000000000000000000000000
theorem run_succ {T : List FI} {G : List D} {B n f : Nat} {fi : FI} {ds : List D} (h : T[f]? = some fi) : run T G B (n + 1) f ds = callF (run T G B n) G B fi ds := by
  show (match T[f]? with | none => CR.bad | some fi => callF (run T G B n) G B fi ds) = _
  rw [h]
theorem op_add (i j : Int) : opD .add (.int i) (.int j) = some (.int (i + j)) := rfl
theorem op_sub (i j : Int) : opD .sub (.int i) (.int j) = some (.int (i - j)) := rfl
theorem op_mul (i j : Int) : opD .mul (.int i) (.int j) = if mulOk i j then some (.int (i * j)) else none := rfl
theorem op_fdiv (i j : Int) : opD .fdiv (.int i) (.int j) = if divOk j then some (.int (i.fdiv j)) else none := rfl
theorem op_mod (i j : Int) : opD .mod (.int i) (.int j) = if decide (j ≠ 0) then some (.int (i.fmod j)) else none := rfl
theorem cm_lt (i j : Int) : cmpD .lt (.int i) (.int j) = some (decide (i < j)) := rfl
theorem cm_le (i j : Int) : cmpD .le (.int i) (.int j) = some (decide (i ≤ j)) := rfl
theorem cm_gt (i j : Int) : cmpD .gt (.int i) (.int j) = some (decide (j < i)) := rfl
theorem cm_ge (i j : Int) : cmpD .ge (.int i) (.int j) = some (decide (j ≤ i)) := rfl
theorem cm_eq (i j : Int) : cmpD .eq (.int i) (.int j) = some (i == j) := rfl
theorem cm_ne (i j : Int) : cmpD .ne (.int i) (.int j) = some (!(i == j)) := rfl
theorem cm_eq2 (i j k l : Int) : cmpD .eq (.tup [.int i, .int j]) (.tup [.int k, .int l]) = some ((i == k) && ((j == l) && true)) := rfl
theorem cm_ne2 (i j k l : Int) : cmpD .ne (.tup [.int i, .int j]) (.tup [.int k, .int l]) = some (!((i == k) && ((j == l) && true))) := rfl
theorem qbi_abs (i : Int) : biD .abs [.int i] = some (.int (i.natAbs : Int)) := by
  show some (D.int (if i < 0 then -i else i)) = _
  congr 2
  split <;> omega
theorem qbi_int (i : Int) : biD .int [.int i] = some (.int i) := rfl
theorem qbi_intb (b : Bool) : biD .int [.bl b] = some (.int (if b then 1 else 0)) := rfl
theorem qbi_gcd (i j : Int) : biD .gcd [.int i, .int j] = some (.int (gI i j)) := rfl
theorem qbi_len2 (a b : D) : biD .len [.tup [a, b]] = some (.int 2) := rfl
theorem qbi_all2 (a b : Bool) : biD .all [.lst [.bl a, .bl b]] = some (.bl ([a, b].all id)) := rfl
theorem qbi_all1 (a : Bool) : biD .all [.lst [.bl a]] = some (.bl ([a].all id)) := rfl
theorem tr_bl (b : Bool) : truth (.bl b) = some b := rfl
theorem ix0 (a b : D) : ixD (.tup [a, b]) (.int 0) = some a := rfl
theorem ix1 (a b : D) : ixD (.tup [a, b]) (.int 1) = some b := rfl
theorem il0 (a b c : D) : ixD (.lst [a, b, c]) (.int 0) = some a := rfl
theorem il1 (a b c : D) : ixD (.lst [a, b, c]) (.int 1) = some b := rfl
theorem il2 (a b c : D) : ixD (.lst [a, b, c]) (.int 2) = some c := rfl
theorem log2_small {x : Nat} (h : x < 2 ^ 1000) : x.log2 ≤ 1000 := by
  by_cases z : x = 0
  · subst z
    exact Nat.zero_le _
  · exact Nat.le_of_lt ((Nat.log2_lt z).mpr h)
theorem mulOk_of {i j : Int} (h1 : i.natAbs < 2 ^ 1000) (h2 : j.natAbs < 2 ^ 1000) : mulOk i j = true := by
  unfold mulOk
  have a := log2_small h1
  have b := log2_small h2
  exact decide_eq_true (by omega)
theorem divOk_of {j : Int} (h : j ≠ 0) (h2 : j.natAbs < 2 ^ 1000) : divOk j = true := by
  unfold divOk
  have b := log2_small h2
  rw [Bool.and_eq_true]
  exact ⟨decide_eq_true h, decide_eq_true (by omega)⟩
theorem g0 : GG[0]? = some (.int E60) := rfl
theorem g1 : GG[1]? = some (.int 2) := rfl
abbrev R (n : Nat) : Orc := run TT0 GG BB n
/-! ### numbers -/
theorem r_whole_i (n : Nat) (i : Int) : R (n+1) 0 [.int i] = .ok (.bl true) .non := rfl
theorem r_whole_t (n : Nat) (ds : List D) : R (n+1) 0 [.tup ds] = .ok (.bl false) .non := rfl
theorem r_short_i (n : Nat) (i : Int) (h : i.natAbs < 1000000000000000000000000000000000000000000000000000000000000) : R (n+2) 1 [.int i] = .ok (.bl true) .non := by
  have h1 : decide (-E60 < i) = true := decide_eq_true (by unfold E60; omega)
  have h2 : decide (i < E60) = true := decide_eq_true (by unfold E60; omega)
  rw [R, run_succ rfl]
  simp [callF, d_is_short, d_is_short_N, d_is_short_b, exs, ex, ev, evL, evP, callF, Out.bind, Out.val, Out.nox, Out.toV, Out.toS, FR.seq, pdv, tst, gets, Sl.get, Pd.get, getsAll, ix0, ix1, op_add, op_sub, op_mul, op_fdiv, op_mod, cm_lt, cm_le, cm_gt, cm_ge, cm_eq, cm_ne, cm_eq2, cm_ne2, qbi_abs, qbi_int, qbi_intb, qbi_gcd, qbi_len2, tr_bl, blanks, isPk, flat, isLst, outM, putS, setSl, freshB, ownV, isiD, tyTag, evT, bindT, items, srcE, isNon, bools, isOw, SL, ixNat, il0, il1, il2,  qbi_all2, qbi_all1, g0, r_whole_i, h1, h2]
theorem r_short_t (n : Nat) (ds : List D) : R (n+2) 1 [.tup ds] = .ok (.bl false) .non := rfl
theorem r_int_i (n : Nat) (i : Int) (h : i.natAbs < 1000000000000000000000000000000000000000000000000000000000000) : R (n+3) 13 [.int i] = .ok (.bl true) .non := by
  rw [R, run_succ rfl]
  simp [callF, d_is_integer, d_is_integer_N, d_is_integer_b, exs, ex, ev, evL, evP, callF, Out.bind, Out.val, Out.nox, Out.toV, Out.toS, FR.seq, pdv, tst, gets, Sl.get, Pd.get, getsAll, ix0, ix1, op_add, op_sub, op_mul, op_fdiv, op_mod, cm_lt, cm_le, cm_gt, cm_ge, cm_eq, cm_ne, cm_eq2, cm_ne2, qbi_abs, qbi_int, qbi_intb, qbi_gcd, qbi_len2, tr_bl, blanks, isPk, flat, isLst, outM, putS, setSl, freshB, ownV, isiD, tyTag, evT, bindT, items, srcE, isNon, bools, isOw, SL, ixNat, il0, il1, il2,  qbi_all2, qbi_all1, r_short_i n i h]
theorem r_int_t (n : Nat) (ds : List D) : R (n+3) 13 [.tup ds] = .ok (.bl false) .non := rfl
theorem r_fany (n : Nat) (p q : Int) (h : 0 < q) (c : Cop p q) : R (n+2) 11 [.tup [.int p, .int q]] = .ok (.bl true) .non := by
  have e : gI p q = 1 := by
    unfold gI
    rw [show Nat.gcd p.natAbs q.natAbs = 1 from c]
    rfl
  rw [R, run_succ rfl]
  simp [callF, d_is_fraction_any, d_is_fraction_any_N, d_is_fraction_any_b, exs, ex, ev, evL, evP, callF, Out.bind, Out.val, Out.nox, Out.toV, Out.toS, FR.seq, pdv, tst, gets, Sl.get, Pd.get, getsAll, ix0, ix1, op_add, op_sub, op_mul, op_fdiv, op_mod, cm_lt, cm_le, cm_gt, cm_ge, cm_eq, cm_ne, cm_eq2, cm_ne2, qbi_abs, qbi_int, qbi_intb, qbi_gcd, qbi_len2, tr_bl, blanks, isPk, flat, isLst, outM, putS, setSl, freshB, ownV, isiD, tyTag, evT, bindT, items, srcE, isNon, bools, isOw, SL, ixNat, il0, il1, il2,  qbi_all2, qbi_all1, g1, r_whole_i, h, e, lcL, wipeE, backE]
abbrev K20 : Nat := 100000000000000000000
abbrev K42 : Nat := 1000000000000000000000000000000000000000000
/-- a fraction in lowest terms, its parts at most m -/
structure Fra (m : Nat) (p q : Int) : Prop where
  pos : 0 < q
  cop : Cop p q
  tp : p.natAbs ≤ m
  bt : q.natAbs ≤ m
theorem Fra.mono {m m' : Nat} {p q : Int} (h : Fra m p q) (k : m ≤ m') : Fra m' p q := ⟨h.pos, h.cop, Nat.le_trans h.tp k, Nat.le_trans h.bt k⟩
/-- the number, as a fraction or an integer -/
def Nm (d : D) (p q : Int) : Prop := d = .tup [.int p, .int q] ∨ (q = 1 ∧ d = .int p)
theorem Fra.ltp {p q : Int} (h : Fra K42 p q) : p.natAbs < 1000000000000000000000000000000000000000000000000000000000000 := Nat.lt_of_le_of_lt h.tp (by decide)
theorem Fra.ltq {p q : Int} (h : Fra K42 p q) : q.natAbs < 1000000000000000000000000000000000000000000000000000000000000 := Nat.lt_of_le_of_lt h.bt (by decide)
theorem r_frac (n : Nat) (p q : Int) (h : Fra K42 p q) : R (n+3) 14 [.tup [.int p, .int q]] = .ok (.bl true) .non := by
  have a := h.tp
  have b := h.bt
  rw [R, run_succ rfl]
  simp [callF, d_is_fraction, d_is_fraction_N, d_is_fraction_b, exs, ex, ev, evL, evP, callF, Out.bind, Out.val, Out.nox, Out.toV, Out.toS, FR.seq, pdv, tst, gets, Sl.get, Pd.get, getsAll, ix0, ix1, op_add, op_sub, op_mul, op_fdiv, op_mod, cm_lt, cm_le, cm_gt, cm_ge, cm_eq, cm_ne, cm_eq2, cm_ne2, qbi_abs, qbi_int, qbi_intb, qbi_gcd, qbi_len2, tr_bl, blanks, isPk, flat, isLst, outM, putS, setSl, freshB, ownV, isiD, tyTag, evT, bindT, items, srcE, isNon, bools, isOw, SL, ixNat, il0, il1, il2,  qbi_all2, qbi_all1, r_short_i n p h.ltp, r_short_i n q h.ltq, r_fany n p q h.pos h.cop]
theorem r_num (n : Nat) (d : D) (p q : Int) (h : Fra K42 p q) (k : Nm d p q) : R (n+4) 15 [d] = .ok (.bl true) .non := by
  have a := h.tp
  rw [R, run_succ rfl]
  rcases k with rfl | ⟨rfl, rfl⟩
  · simp [callF, d_is_number, d_is_number_N, d_is_number_b, exs, ex, ev, evL, evP, callF, Out.bind, Out.val, Out.nox, Out.toV, Out.toS, FR.seq, pdv, tst, gets, Sl.get, Pd.get, getsAll, ix0, ix1, op_add, op_sub, op_mul, op_fdiv, op_mod, cm_lt, cm_le, cm_gt, cm_ge, cm_eq, cm_ne, cm_eq2, cm_ne2, qbi_abs, qbi_int, qbi_intb, qbi_gcd, qbi_len2, tr_bl, blanks, isPk, flat, isLst, outM, putS, setSl, freshB, ownV, isiD, tyTag, evT, bindT, items, srcE, isNon, bools, isOw, SL, ixNat, il0, il1, il2,  qbi_all2, qbi_all1, r_frac n p q h, r_int_t n]
  · simp [callF, d_is_number, d_is_number_N, d_is_number_b, exs, ex, ev, evL, evP, callF, Out.bind, Out.val, Out.nox, Out.toV, Out.toS, FR.seq, pdv, tst, gets, Sl.get, Pd.get, getsAll, ix0, ix1, op_add, op_sub, op_mul, op_fdiv, op_mod, cm_lt, cm_le, cm_gt, cm_ge, cm_eq, cm_ne, cm_eq2, cm_ne2, qbi_abs, qbi_int, qbi_intb, qbi_gcd, qbi_len2, tr_bl, blanks, isPk, flat, isLst, outM, putS, setSl, freshB, ownV, isiD, tyTag, evT, bindT, items, srcE, isNon, bools, isOw, SL, ixNat, il0, il1, il2,  qbi_all2, qbi_all1, r_int_i n p h.ltp]
theorem r_req2 (n : Nat) (d d' : D) (p q p' q' : Int) (h : Fra K42 p q) (k : Nm d p q) (h' : Fra K42 p' q') (k' : Nm d' p' q') : R (n+5) 12 [.tup [d, d']] = .ok .non .non := by
  rw [R, run_succ rfl]
  simp [callF, d_require_numbers, d_require_numbers_N, d_require_numbers_b, exs, ex, ev, evL, evP, callF, Out.bind, Out.val, Out.nox, Out.toV, Out.toS, FR.seq, pdv, tst, gets, Sl.get, Pd.get, getsAll, ix0, ix1, op_add, op_sub, op_mul, op_fdiv, op_mod, cm_lt, cm_le, cm_gt, cm_ge, cm_eq, cm_ne, cm_eq2, cm_ne2, qbi_abs, qbi_int, qbi_intb, qbi_gcd, qbi_len2, tr_bl, blanks, isPk, flat, isLst, outM, putS, setSl, freshB, ownV, isiD, tyTag, evT, bindT, items, srcE, isNon, bools, isOw, SL, ixNat, il0, il1, il2,  qbi_all2, qbi_all1, lcL, wipeE, backE, r_num n d p q h k, r_num n d' p' q' h' k']
theorem r_req1 (n : Nat) (d : D) (p q : Int) (h : Fra K42 p q) (k : Nm d p q) : R (n+5) 12 [.tup [d]] = .ok .non .non := by
  rw [R, run_succ rfl]
  simp [callF, d_require_numbers, d_require_numbers_N, d_require_numbers_b, exs, ex, ev, evL, evP, callF, Out.bind, Out.val, Out.nox, Out.toV, Out.toS, FR.seq, pdv, tst, gets, Sl.get, Pd.get, getsAll, ix0, ix1, op_add, op_sub, op_mul, op_fdiv, op_mod, cm_lt, cm_le, cm_gt, cm_ge, cm_eq, cm_ne, cm_eq2, cm_ne2, qbi_abs, qbi_int, qbi_intb, qbi_gcd, qbi_len2, tr_bl, blanks, isPk, flat, isLst, outM, putS, setSl, freshB, ownV, isiD, tyTag, evT, bindT, items, srcE, isNon, bools, isOw, SL, ixNat, il0, il1, il2,  qbi_all2, qbi_all1, lcL, wipeE, backE, r_num n d p q h k]
theorem r_fo (n : Nat) (d : D) (p q : Int) (k : Nm d p q) : R (n+1) 3 [d] = .ok (.tup [.int p, .int q]) .non := by
  rcases k with rfl | ⟨rfl, rfl⟩ <;> rfl
/-- lowest terms -/
def frD (t b : Int) : D := .tup [.int (frT t b), .int (frB t b)]
theorem r_low (n : Nat) (t b : Int) (hb : b ≠ 0) (hs : b.natAbs < 2 ^ 1000) : R (n+1) 2 [.int t, .int b] = .ok (frD t b) .non := by
  have hd : divOk (gS t b) = true := divOk_of (fr_split t b hb).1 (Nat.lt_of_le_of_lt (gI_le t b hb) hs)
  rw [R, run_succ rfl]
  unfold frD frT frB
  by_cases h : 0 < b
  · have e : gS t b = gI t b := by unfold gS; rw [if_pos h]
    rw [e] at hd ⊢
    simp [callF, d_lowest_of, d_lowest_of_N, d_lowest_of_b, exs, ex, ev, evL, evP, callF, Out.bind, Out.val, Out.nox, Out.toV, Out.toS, FR.seq, pdv, tst, gets, Sl.get, Pd.get, getsAll, ix0, ix1, op_add, op_sub, op_mul, op_fdiv, op_mod, cm_lt, cm_le, cm_gt, cm_ge, cm_eq, cm_ne, cm_eq2, cm_ne2, qbi_abs, qbi_int, qbi_intb, qbi_gcd, qbi_len2, tr_bl, blanks, isPk, flat, isLst, outM, putS, setSl, freshB, ownV, isiD, tyTag, evT, bindT, items, srcE, isNon, bools, isOw, SL, ixNat, il0, il1, il2,  qbi_all2, qbi_all1, h, hd]
  · have e : gS t b = -gI t b := by unfold gS; rw [if_neg h]
    rw [e] at hd ⊢
    simp [callF, d_lowest_of, d_lowest_of_N, d_lowest_of_b, exs, ex, ev, evL, evP, callF, Out.bind, Out.val, Out.nox, Out.toV, Out.toS, FR.seq, pdv, tst, gets, Sl.get, Pd.get, getsAll, ix0, ix1, op_add, op_sub, op_mul, op_fdiv, op_mod, cm_lt, cm_le, cm_gt, cm_ge, cm_eq, cm_ne, cm_eq2, cm_ne2, qbi_abs, qbi_int, qbi_intb, qbi_gcd, qbi_len2, tr_bl, blanks, isPk, flat, isLst, outM, putS, setSl, freshB, ownV, isiD, tyTag, evT, bindT, items, srcE, isNon, bools, isOw, SL, ixNat, il0, il1, il2,  qbi_all2, qbi_all1, h, hd]
theorem K42_lt : K42 < 2 ^ 1000 := by decide
theorem mo {i j : Int} (h1 : i.natAbs ≤ K42) (h2 : j.natAbs ≤ K42) : mulOk i j = true := mulOk_of (Nat.lt_of_le_of_lt h1 K42_lt) (Nat.lt_of_le_of_lt h2 K42_lt)
theorem mul_le {i j : Int} {a b : Nat} (h1 : i.natAbs ≤ a) (h2 : j.natAbs ≤ b) : (i * j).natAbs ≤ a * b := by
  rw [Int.natAbs_mul]
  exact Nat.mul_le_mul h1 h2
theorem mul_lt {i j : Int} (h1 : i.natAbs ≤ K42) (h2 : j.natAbs ≤ K42) : (i * j).natAbs < 2 ^ 1000 := Nat.lt_of_le_of_lt (mul_le h1 h2) (by decide)
theorem mul_nz {i j : Int} (h1 : 0 < i) (h2 : 0 < j) : i * j ≠ 0 := by
  have := Int.mul_pos h1 h2
  omega
section
variable {p q p' q' : Int} {d d' : D} (n : Nat) (h : Fra K42 p q) (k : Nm d p q) (h' : Fra K42 p' q') (k' : Nm d' p' q')
include h h'
theorem r_plusof : R (n+2) 4 [.tup [.int p, .int q], .tup [.int p', .int q']] = .ok (frD (p * q' + p' * q) (q * q')) .non := by
  rw [R, run_succ rfl]
  simp [callF, d_plus_of, d_plus_of_N, d_plus_of_b, exs, ex, ev, evL, evP, callF, Out.bind, Out.val, Out.nox, Out.toV, Out.toS, FR.seq, pdv, tst, gets, Sl.get, Pd.get, getsAll, ix0, ix1, op_add, op_sub, op_mul, op_fdiv, op_mod, cm_lt, cm_le, cm_gt, cm_ge, cm_eq, cm_ne, cm_eq2, cm_ne2, qbi_abs, qbi_int, qbi_intb, qbi_gcd, qbi_len2, tr_bl, blanks, isPk, flat, isLst, outM, putS, setSl, freshB, ownV, isiD, tyTag, evT, bindT, items, srcE, isNon, bools, isOw, SL, ixNat, il0, il1, il2,  qbi_all2, qbi_all1, mo h.tp h'.bt, mo h'.tp h.bt, mo h.bt h'.bt, r_low n (p * q' + p' * q) (q * q') (mul_nz h.pos h'.pos) (mul_lt h.bt h'.bt), frD]
theorem r_minusof : R (n+2) 5 [.tup [.int p, .int q], .tup [.int p', .int q']] = .ok (frD (p * q' - p' * q) (q * q')) .non := by
  rw [R, run_succ rfl]
  simp [callF, d_minus_of, d_minus_of_N, d_minus_of_b, exs, ex, ev, evL, evP, callF, Out.bind, Out.val, Out.nox, Out.toV, Out.toS, FR.seq, pdv, tst, gets, Sl.get, Pd.get, getsAll, ix0, ix1, op_add, op_sub, op_mul, op_fdiv, op_mod, cm_lt, cm_le, cm_gt, cm_ge, cm_eq, cm_ne, cm_eq2, cm_ne2, qbi_abs, qbi_int, qbi_intb, qbi_gcd, qbi_len2, tr_bl, blanks, isPk, flat, isLst, outM, putS, setSl, freshB, ownV, isiD, tyTag, evT, bindT, items, srcE, isNon, bools, isOw, SL, ixNat, il0, il1, il2,  qbi_all2, qbi_all1, mo h.tp h'.bt, mo h'.tp h.bt, mo h.bt h'.bt, r_low n (p * q' - p' * q) (q * q') (mul_nz h.pos h'.pos) (mul_lt h.bt h'.bt), frD]
theorem r_timesof : R (n+2) 6 [.tup [.int p, .int q], .tup [.int p', .int q']] = .ok (frD (p * p') (q * q')) .non := by
  rw [R, run_succ rfl]
  simp [callF, d_times_of, d_times_of_N, d_times_of_b, exs, ex, ev, evL, evP, callF, Out.bind, Out.val, Out.nox, Out.toV, Out.toS, FR.seq, pdv, tst, gets, Sl.get, Pd.get, getsAll, ix0, ix1, op_add, op_sub, op_mul, op_fdiv, op_mod, cm_lt, cm_le, cm_gt, cm_ge, cm_eq, cm_ne, cm_eq2, cm_ne2, qbi_abs, qbi_int, qbi_intb, qbi_gcd, qbi_len2, tr_bl, blanks, isPk, flat, isLst, outM, putS, setSl, freshB, ownV, isiD, tyTag, evT, bindT, items, srcE, isNon, bools, isOw, SL, ixNat, il0, il1, il2,  qbi_all2, qbi_all1, mo h.tp h'.tp, mo h.bt h'.bt, r_low n (p * p') (q * q') (mul_nz h.pos h'.pos) (mul_lt h.bt h'.bt), frD]
theorem r_overof (z : p' ≠ 0) : R (n+2) 7 [.tup [.int p, .int q], .tup [.int p', .int q']] = .ok (frD (p * q') (q * p')) .non := by
  have nz : q * p' ≠ 0 := Int.mul_ne_zero (by have := h.pos; omega) z
  rw [R, run_succ rfl]
  simp [callF, d_over_of, d_over_of_N, d_over_of_b, exs, ex, ev, evL, evP, callF, Out.bind, Out.val, Out.nox, Out.toV, Out.toS, FR.seq, pdv, tst, gets, Sl.get, Pd.get, getsAll, ix0, ix1, op_add, op_sub, op_mul, op_fdiv, op_mod, cm_lt, cm_le, cm_gt, cm_ge, cm_eq, cm_ne, cm_eq2, cm_ne2, qbi_abs, qbi_int, qbi_intb, qbi_gcd, qbi_len2, tr_bl, blanks, isPk, flat, isLst, outM, putS, setSl, freshB, ownV, isiD, tyTag, evT, bindT, items, srcE, isNon, bools, isOw, SL, ixNat, il0, il1, il2,  qbi_all2, qbi_all1, mo h.tp h'.bt, mo h.bt h'.tp, r_low n (p * q') (q * p') nz (mul_lt h.bt h'.tp), frD]
include k k'
theorem r_plus : R (n+6) 17 [d, d'] = .ok (frD (p * q' + p' * q) (q * q')) .non := by
  rw [R, run_succ rfl]
  simp [callF, d_plus, d_plus_N, d_plus_b, exs, ex, ev, evL, evP, callF, Out.bind, Out.val, Out.nox, Out.toV, Out.toS, FR.seq, pdv, tst, gets, Sl.get, Pd.get, getsAll, ix0, ix1, op_add, op_sub, op_mul, op_fdiv, op_mod, cm_lt, cm_le, cm_gt, cm_ge, cm_eq, cm_ne, cm_eq2, cm_ne2, qbi_abs, qbi_int, qbi_intb, qbi_gcd, qbi_len2, tr_bl, blanks, isPk, flat, isLst, outM, putS, setSl, freshB, ownV, isiD, tyTag, evT, bindT, items, srcE, isNon, bools, isOw, SL, ixNat, il0, il1, il2,  qbi_all2, qbi_all1, r_req2 n d d' p q p' q' h k h' k', r_fo (n+4) d p q k, r_fo (n+4) d' p' q' k', r_plusof (n+3) h h', frD]
theorem r_minus : R (n+6) 18 [d, d'] = .ok (frD (p * q' - p' * q) (q * q')) .non := by
  rw [R, run_succ rfl]
  simp [callF, d_minus, d_minus_N, d_minus_b, exs, ex, ev, evL, evP, callF, Out.bind, Out.val, Out.nox, Out.toV, Out.toS, FR.seq, pdv, tst, gets, Sl.get, Pd.get, getsAll, ix0, ix1, op_add, op_sub, op_mul, op_fdiv, op_mod, cm_lt, cm_le, cm_gt, cm_ge, cm_eq, cm_ne, cm_eq2, cm_ne2, qbi_abs, qbi_int, qbi_intb, qbi_gcd, qbi_len2, tr_bl, blanks, isPk, flat, isLst, outM, putS, setSl, freshB, ownV, isiD, tyTag, evT, bindT, items, srcE, isNon, bools, isOw, SL, ixNat, il0, il1, il2,  qbi_all2, qbi_all1, r_req2 n d d' p q p' q' h k h' k', r_fo (n+4) d p q k, r_fo (n+4) d' p' q' k', r_minusof (n+3) h h', frD]
theorem r_times : R (n+6) 19 [d, d'] = .ok (frD (p * p') (q * q')) .non := by
  rw [R, run_succ rfl]
  simp [callF, d_times, d_times_N, d_times_b, exs, ex, ev, evL, evP, callF, Out.bind, Out.val, Out.nox, Out.toV, Out.toS, FR.seq, pdv, tst, gets, Sl.get, Pd.get, getsAll, ix0, ix1, op_add, op_sub, op_mul, op_fdiv, op_mod, cm_lt, cm_le, cm_gt, cm_ge, cm_eq, cm_ne, cm_eq2, cm_ne2, qbi_abs, qbi_int, qbi_intb, qbi_gcd, qbi_len2, tr_bl, blanks, isPk, flat, isLst, outM, putS, setSl, freshB, ownV, isiD, tyTag, evT, bindT, items, srcE, isNon, bools, isOw, SL, ixNat, il0, il1, il2,  qbi_all2, qbi_all1, r_req2 n d d' p q p' q' h k h' k', r_fo (n+4) d p q k, r_fo (n+4) d' p' q' k', r_timesof (n+3) h h', frD]
theorem r_over (z : p' ≠ 0) : R (n+6) 20 [d, d'] = .ok (frD (p * q') (q * p')) .non := by
  rw [R, run_succ rfl]
  simp [callF, d_over, d_over_N, d_over_b, exs, ex, ev, evL, evP, callF, Out.bind, Out.val, Out.nox, Out.toV, Out.toS, FR.seq, pdv, tst, gets, Sl.get, Pd.get, getsAll, ix0, ix1, op_add, op_sub, op_mul, op_fdiv, op_mod, cm_lt, cm_le, cm_gt, cm_ge, cm_eq, cm_ne, cm_eq2, cm_ne2, qbi_abs, qbi_int, qbi_intb, qbi_gcd, qbi_len2, tr_bl, blanks, isPk, flat, isLst, outM, putS, setSl, freshB, ownV, isiD, tyTag, evT, bindT, items, srcE, isNon, bools, isOw, SL, ixNat, il0, il1, il2,  qbi_all2, qbi_all1, r_req2 n d d' p q p' q' h k h' k', r_fo (n+4) d p q k, r_fo (n+4) d' p' q' k', r_overof (n+3) h h' z, frD, z]
theorem r_cmp : R (n+6) 21 [d, d'] = .ok (.int ((if p' * q < p * q' then 1 else 0) - (if p * q' < p' * q then 1 else 0))) .non := by
  have e : R (n+5) 8 [.tup [.int p, .int q], .tup [.int p', .int q']] = .ok (.int ((if p' * q < p * q' then 1 else 0) - (if p * q' < p' * q then 1 else 0))) .non := by
    rw [R, run_succ rfl]
    simp [callF, d_compared_of, d_compared_of_N, d_compared_of_b, exs, ex, ev, evL, evP, callF, Out.bind, Out.val, Out.nox, Out.toV, Out.toS, FR.seq, pdv, tst, gets, Sl.get, Pd.get, getsAll, ix0, ix1, op_add, op_sub, op_mul, op_fdiv, op_mod, cm_lt, cm_le, cm_gt, cm_ge, cm_eq, cm_ne, cm_eq2, cm_ne2, qbi_abs, qbi_int, qbi_intb, qbi_gcd, qbi_len2, tr_bl, blanks, isPk, flat, isLst, outM, putS, setSl, freshB, ownV, isiD, tyTag, evT, bindT, items, srcE, isNon, bools, isOw, SL, ixNat, il0, il1, il2,  qbi_all2, qbi_all1, mo h.tp h'.bt, mo h'.tp h.bt]
  rw [R, run_succ rfl]
  simp [callF, d_compare, d_compare_N, d_compare_b, exs, ex, ev, evL, evP, callF, Out.bind, Out.val, Out.nox, Out.toV, Out.toS, FR.seq, pdv, tst, gets, Sl.get, Pd.get, getsAll, ix0, ix1, op_add, op_sub, op_mul, op_fdiv, op_mod, cm_lt, cm_le, cm_gt, cm_ge, cm_eq, cm_ne, cm_eq2, cm_ne2, qbi_abs, qbi_int, qbi_intb, qbi_gcd, qbi_len2, tr_bl, blanks, isPk, flat, isLst, outM, putS, setSl, freshB, ownV, isiD, tyTag, evT, bindT, items, srcE, isNon, bools, isOw, SL, ixNat, il0, il1, il2,  qbi_all2, qbi_all1, r_req2 n d d' p q p' q' h k h' k', r_fo (n+4) d p q k, r_fo (n+4) d' p' q' k', e]
end
theorem r_floor (n : Nat) {p q : Int} {d : D} (h : Fra K42 p q) (k : Nm d p q) : R (n+6) 22 [d] = .ok (.int (p.fdiv q)) .non := by
  have a := h.pos
  have dk : divOk q = true := divOk_of (by omega) (Nat.lt_of_le_of_lt h.bt K42_lt)
  have e : R (n+5) 9 [.tup [.int p, .int q]] = .ok (.int (p.fdiv q)) .non := by
    rw [R, run_succ rfl]
    simp [callF, d_floor_in, d_floor_in_N, d_floor_in_b, exs, ex, ev, evL, evP, callF, Out.bind, Out.val, Out.nox, Out.toV, Out.toS, FR.seq, pdv, tst, gets, Sl.get, Pd.get, getsAll, ix0, ix1, op_add, op_sub, op_mul, op_fdiv, op_mod, cm_lt, cm_le, cm_gt, cm_ge, cm_eq, cm_ne, cm_eq2, cm_ne2, qbi_abs, qbi_int, qbi_intb, qbi_gcd, qbi_len2, tr_bl, blanks, isPk, flat, isLst, outM, putS, setSl, freshB, ownV, isiD, tyTag, evT, bindT, items, srcE, isNon, bools, isOw, SL, ixNat, il0, il1, il2,  qbi_all2, qbi_all1, dk]
  rw [R, run_succ rfl]
  simp [callF, d_floor_of, d_floor_of_N, d_floor_of_b, exs, ex, ev, evL, evP, callF, Out.bind, Out.val, Out.nox, Out.toV, Out.toS, FR.seq, pdv, tst, gets, Sl.get, Pd.get, getsAll, ix0, ix1, op_add, op_sub, op_mul, op_fdiv, op_mod, cm_lt, cm_le, cm_gt, cm_ge, cm_eq, cm_ne, cm_eq2, cm_ne2, qbi_abs, qbi_int, qbi_intb, qbi_gcd, qbi_len2, tr_bl, blanks, isPk, flat, isLst, outM, putS, setSl, freshB, ownV, isiD, tyTag, evT, bindT, items, srcE, isNon, bools, isOw, SL, ixNat, il0, il1, il2,  qbi_all2, qbi_all1, r_req1 n d p q h k, r_fo (n+4) d p q k, e]
theorem r_rest (n : Nat) {p q : Int} {d : D} (h : Fra K42 p q) (k : Nm d p q) : R (n+6) 23 [d] = .ok (.tup [.int (p.fmod q), .int q]) .non := by
  have a : q ≠ 0 := by have := h.pos; omega
  have e : R (n+5) 10 [.tup [.int p, .int q]] = .ok (.tup [.int (p.fmod q), .int q]) .non := by
    rw [R, run_succ rfl]
    simp [callF, d_rest_in, d_rest_in_N, d_rest_in_b, exs, ex, ev, evL, evP, callF, Out.bind, Out.val, Out.nox, Out.toV, Out.toS, FR.seq, pdv, tst, gets, Sl.get, Pd.get, getsAll, ix0, ix1, op_add, op_sub, op_mul, op_fdiv, op_mod, cm_lt, cm_le, cm_gt, cm_ge, cm_eq, cm_ne, cm_eq2, cm_ne2, qbi_abs, qbi_int, qbi_intb, qbi_gcd, qbi_len2, tr_bl, blanks, isPk, flat, isLst, outM, putS, setSl, freshB, ownV, isiD, tyTag, evT, bindT, items, srcE, isNon, bools, isOw, SL, ixNat, il0, il1, il2,  qbi_all2, qbi_all1, a]
  rw [R, run_succ rfl]
  simp [callF, d_rest_of, d_rest_of_N, d_rest_of_b, exs, ex, ev, evL, evP, callF, Out.bind, Out.val, Out.nox, Out.toV, Out.toS, FR.seq, pdv, tst, gets, Sl.get, Pd.get, getsAll, ix0, ix1, op_add, op_sub, op_mul, op_fdiv, op_mod, cm_lt, cm_le, cm_gt, cm_ge, cm_eq, cm_ne, cm_eq2, cm_ne2, qbi_abs, qbi_int, qbi_intb, qbi_gcd, qbi_len2, tr_bl, blanks, isPk, flat, isLst, outM, putS, setSl, freshB, ownV, isiD, tyTag, evT, bindT, items, srcE, isNon, bools, isOw, SL, ixNat, il0, il1, il2,  qbi_all2, qbi_all1, r_req1 n d p q h k, r_fo (n+4) d p q k, e]
end TT

set_option maxHeartbeats 4000000
set_option exponentiation.threshold 2000
namespace TT
open PySem
/-! ### the dice -/
abbrev dcD (a b c : Int) : D := .lst [.int a, .int b, .int c]
/-- what is known of the dice -/
structure Dc (k : Int) (a b c : Int) : Prop where
  ha : 0 ≤ a
  hb : b.natAbs < 2 ^ 900
  hc : 0 ≤ c
  hk : c ≤ k
theorem Dc.mono {k k' a b c : Int} (h : Dc k a b c) (l : k ≤ k') : Dc k' a b c := ⟨h.ha, h.hb, h.hc, by have := h.hk; omega⟩
theorem fm_range {x t : Int} (h : 0 < t) : 0 ≤ x.fmod t ∧ x.fmod t < t := ⟨Int.fmod_nonneg_of_pos x h, Int.fmod_lt_of_pos x h⟩
theorem r_roll (n : Nat) {k a b c t : Int} (h : Dc k a b c) (hk : k ≤ 10000) (ht : 0 < t) (hs : t.natAbs < 2 ^ 1000) :
    ∃ r a' c', R (n+1) 25 [dcD a b c, .int t] = .ok (.int r) (dcD a' b c') ∧ 0 ≤ r ∧ r < t ∧ Dc (k+1) a' b c' := by
  have t0 : t ≠ 0 := by omega
  have dt : divOk t = true := divOk_of t0 hs
  by_cases ha : 0 < a
  · refine ⟨a.fmod t, a.fdiv t, c, ?_, (fm_range ht).1, (fm_range ht).2, Int.fdiv_nonneg h.ha (by omega), h.hb, h.hc, by have := h.hk; omega⟩
    rw [R, run_succ rfl]
    simp [callF, d_law_roll, d_law_roll_N, d_law_roll_b, exs, ex, ev, evL, evP, callF, Out.bind, Out.val, Out.nox, Out.toV, Out.toS, FR.seq, pdv, tst, gets, Sl.get, Pd.get, getsAll, ix0, ix1, op_add, op_sub, op_mul, op_fdiv, op_mod, cm_lt, cm_le, cm_gt, cm_ge, cm_eq, cm_ne, cm_eq2, cm_ne2, qbi_abs, qbi_int, qbi_intb, qbi_gcd, qbi_len2, tr_bl, blanks, isPk, flat, isLst, outM, putS, setSl, freshB, ownV, isiD, tyTag, evT, bindT, items, srcE, isNon, bools, isOw, SL, ixNat, il0, il1, il2,  qbi_all2, qbi_all1, ha, t0, dt]
  · have h1 : mulOk 86028121 (c + 1) = true := mulOk_of (by decide) (Nat.lt_of_le_of_lt (by have := h.hc; have := h.hk; omega : (c + 1).natAbs ≤ 10001) (by decide))
    have h2 : mulOk 107 (c + 1) = true := mulOk_of (by decide) (Nat.lt_of_le_of_lt (by have := h.hc; have := h.hk; omega : (c + 1).natAbs ≤ 10001) (by decide))
    have r1 := fm_range (x := b + 86028121 * (c + 1)) (t := 2305843009213693669) (by decide)
    have b1 : (Int.fmod (b + 86028121 * (c + 1)) 2305843009213693669).natAbs < 2 ^ 1000 := Nat.lt_of_le_of_lt (by omega : _ ≤ 2305843009213693669) (by decide)
    generalize hx : Int.fmod (b + 86028121 * (c + 1)) 2305843009213693669 = x at r1 b1
    have h3 : mulOk x x = true := mulOk_of b1 b1
    have r2 := fm_range (x := x * x + 107 * (c + 1)) (t := 2305843009213693487) (by decide)
    have b2 : (Int.fmod (x * x + 107 * (c + 1)) 2305843009213693487).natAbs < 2 ^ 1000 := Nat.lt_of_le_of_lt (by omega : _ ≤ 2305843009213693487) (by decide)
    generalize hy : Int.fmod (x * x + 107 * (c + 1)) 2305843009213693487 = y at r2 b2
    have h4 : mulOk y 7368787 = true := mulOk_of b2 (by decide)
    have h5 : divOk 65551 = true := rfl
    refine ⟨((y * 7368787 + x).fdiv 65551).fmod t, a, c + 1, ?_, (fm_range ht).1, (fm_range ht).2, h.ha, h.hb, by have := h.hc; omega, by have := h.hk; omega⟩
    rw [R, run_succ rfl]
    simp [callF, d_law_roll, d_law_roll_N, d_law_roll_b, exs, ex, ev, evL, evP, callF, Out.bind, Out.val, Out.nox, Out.toV, Out.toS, FR.seq, pdv, tst, gets, Sl.get, Pd.get, getsAll, ix0, ix1, op_add, op_sub, op_mul, op_fdiv, op_mod, cm_lt, cm_le, cm_gt, cm_ge, cm_eq, cm_ne, cm_eq2, cm_ne2, qbi_abs, qbi_int, qbi_intb, qbi_gcd, qbi_len2, tr_bl, blanks, isPk, flat, isLst, outM, putS, setSl, freshB, ownV, isiD, tyTag, evT, bindT, items, srcE, isNon, bools, isOw, SL, ixNat, il0, il1, il2,  qbi_all2, qbi_all1, ha, t0, dt, h1, h2, h3, h4, h5, hx, hy]
theorem bi_lenl (xs : List D) : biD .len [.lst xs] = some (.int xs.length) := rfl
theorem r_pick (n : Nat) {k a b c : Int} (h : Dc k a b c) (hk : k ≤ 10000) (xs : List D) (hx : 0 < xs.length) (hs : xs.length ≤ 1000) :
    ∃ (i : Nat) (x : D) (a' c' : Int), R (n+2) 26 [dcD a b c, .lst xs] = .ok x (dcD a' b c') ∧ xs[i]? = some x ∧ Dc (k+1) a' b c' := by
  obtain ⟨r, a', c', e, r0, r1, h'⟩ := r_roll n h hk (t := (xs.length : Int)) (by omega) (Nat.lt_of_le_of_lt (by omega : _ ≤ 1000) (by decide))
  have hi : r.toNat < xs.length := by omega
  refine ⟨r.toNat, xs[r.toNat], a', c', ?_, List.getElem?_eq_getElem hi, h'⟩
  have ei : ixD (.lst xs) (.int r) = some xs[r.toNat] := by
    show (ixNat xs.length r).bind (fun k => xs[k]?) = _
    unfold ixNat
    rw [if_pos r0, if_pos r1]
    exact List.getElem?_eq_getElem hi
  rw [R, run_succ rfl]
  simp [callF, d_law_pick, d_law_pick_N, d_law_pick_b, exs, ex, ev, evL, evP, callF, Out.bind, Out.val, Out.nox, Out.toV, Out.toS, FR.seq, pdv, tst, gets, Sl.get, Pd.get, getsAll, ix0, ix1, op_add, op_sub, op_mul, op_fdiv, op_mod, cm_lt, cm_le, cm_gt, cm_ge, cm_eq, cm_ne, cm_eq2, cm_ne2, qbi_abs, qbi_int, qbi_intb, qbi_gcd, qbi_len2, tr_bl, blanks, isPk, flat, isLst, outM, putS, setSl, freshB, ownV, isiD, tyTag, evT, bindT, items, srcE, isNon, bools, isOw, SL, ixNat, il0, il1, il2,  qbi_all2, qbi_all1, bi_lenl, e, ei]
theorem r_near (n : Nat) {k a b c m : Int} (h : Dc k a b c) (hk : k ≤ 10000) (hm : 0 ≤ m) (hs : m.natAbs < 2 ^ 900) :
    ∃ (v a' c' : Int), R (n+2) 27 [dcD a b c, .int m] = .ok (.int v) (dcD a' b c') ∧ -m ≤ v ∧ v ≤ m ∧ Dc (k+1) a' b c' := by
  obtain ⟨r, a', c', e, r0, r1, h'⟩ := r_roll n h hk (t := 2 * m + 1) (by omega) (Nat.lt_of_le_of_lt (by omega : _ ≤ 2 * 2 ^ 900 + 1) (by decide))
  have h1 : mulOk 2 m = true := mulOk_of (by decide) (Nat.lt_trans hs (by decide))
  refine ⟨r - m, a', c', ?_, by omega, by omega, h'⟩
  rw [R, run_succ rfl]
  simp [callF, d_law_near, d_law_near_N, d_law_near_b, exs, ex, ev, evL, evP, callF, Out.bind, Out.val, Out.nox, Out.toV, Out.toS, FR.seq, pdv, tst, gets, Sl.get, Pd.get, getsAll, ix0, ix1, op_add, op_sub, op_mul, op_fdiv, op_mod, cm_lt, cm_le, cm_gt, cm_ge, cm_eq, cm_ne, cm_eq2, cm_ne2, qbi_abs, qbi_int, qbi_intb, qbi_gcd, qbi_len2, tr_bl, blanks, isPk, flat, isLst, outM, putS, setSl, freshB, ownV, isiD, tyTag, evT, bindT, items, srcE, isNon, bools, isOw, SL, ixNat, il0, il1, il2,  qbi_all2, qbi_all1, h1, e]
/-! ### the law's own fractions -/
theorem gcd_loop (C : Orc) : ∀ (f m k : Nat), k < f → whlL (fun e => evT C GG (.cmp .gt (.pk 1) (.int 0)) e) (fun e => exs C GG BB [.par 0 1 (.var 1) (.op .mod (.bi .int [.pk 0]) (.pk 1))] e) f [.im (.int m), .im (.int k)] = .nx [.im (.int (Nat.gcd m k : Nat)), .im (.int 0)]
  | 0, m, k, h => by omega
  | f + 1, m, k, h => by
    unfold whlL
    by_cases hk : k = 0
    · subst hk
      simp [exs, ex, ev, evL, evP, callF, Out.bind, Out.val, Out.nox, Out.toV, Out.toS, FR.seq, pdv, tst, gets, Sl.get, Pd.get, getsAll, ix0, ix1, op_add, op_sub, op_mul, op_fdiv, op_mod, cm_lt, cm_le, cm_gt, cm_ge, cm_eq, cm_ne, cm_eq2, cm_ne2, qbi_abs, qbi_int, qbi_intb, qbi_gcd, qbi_len2, tr_bl, blanks, isPk, flat, isLst, outM, putS, setSl, freshB, ownV, isiD, tyTag, evT, bindT, items, srcE, isNon, bools, isOw, SL, ixNat, il0, il1, il2,  qbi_all2, qbi_all1]
    · have h1 : (k : Int) ≠ 0 := by omega
      have h2 : (0 : Int) < k := by omega
      have e : (m : Int).fmod k = ((m % k : Nat) : Int) := by
        rw [Int.fmod_eq_emod_of_nonneg _ (by omega)]
        rfl
      have ih := gcd_loop C f k (m % k) (by have := Nat.mod_lt m (show k > 0 by omega); omega)
      have eg : Nat.gcd k (m % k) = Nat.gcd m k := by rw [Nat.gcd_comm k, ← Nat.gcd_rec, Nat.gcd_comm]
      rw [eg] at ih
      have e1 : evT C GG (.cmp .gt (.pk 1) (.int 0)) [.im (.int m), .im (.int k)] = .ok true [.im (.int m), .im (.int k)] := by
        simp [exs, ex, ev, evL, evP, callF, Out.bind, Out.val, Out.nox, Out.toV, Out.toS, FR.seq, pdv, tst, gets, Sl.get, Pd.get, getsAll, ix0, ix1, op_add, op_sub, op_mul, op_fdiv, op_mod, cm_lt, cm_le, cm_gt, cm_ge, cm_eq, cm_ne, cm_eq2, cm_ne2, qbi_abs, qbi_int, qbi_intb, qbi_gcd, qbi_len2, tr_bl, blanks, isPk, flat, isLst, outM, putS, setSl, freshB, ownV, isiD, tyTag, evT, bindT, items, srcE, isNon, bools, isOw, SL, ixNat, il0, il1, il2,  qbi_all2, qbi_all1, h2]
        omega
      have e2 : exs C GG BB [.par 0 1 (.var 1) (.op .mod (.bi .int [.pk 0]) (.pk 1))] [.im (.int m), .im (.int k)] = .nx [.im (.int k), .im (.int ((m % k : Nat) : Int))] := by
        simp [exs, ex, ev, evL, evP, callF, Out.bind, Out.val, Out.nox, Out.toV, Out.toS, FR.seq, pdv, tst, gets, Sl.get, Pd.get, getsAll, ix0, ix1, op_add, op_sub, op_mul, op_fdiv, op_mod, cm_lt, cm_le, cm_gt, cm_ge, cm_eq, cm_ne, cm_eq2, cm_ne2, qbi_abs, qbi_int, qbi_intb, qbi_gcd, qbi_len2, tr_bl, blanks, isPk, flat, isLst, outM, putS, setSl, freshB, ownV, isiD, tyTag, evT, bindT, items, srcE, isNon, bools, isOw, SL, ixNat, il0, il1, il2,  qbi_all2, qbi_all1, h1, hk, ← e]
      simp only [e1, e2, Out.toS, if_true, ih]
theorem r_gcd (n : Nat) (t b : Int) (h : b.natAbs < BB) : R (n+1) 28 [.int t, .int b] = .ok (.int (gI t b)) .non := by
  have e := gcd_loop (R n) BB t.natAbs b.natAbs h
  rw [R, run_succ rfl]
  simp [callF, d_law_gcd, d_law_gcd_N, d_law_gcd_b, exs, ex, ev, evL, evP, callF, Out.bind, Out.val, Out.nox, Out.toV, Out.toS, FR.seq, pdv, tst, gets, Sl.get, Pd.get, getsAll, ix0, ix1, op_add, op_sub, op_mul, op_fdiv, op_mod, cm_lt, cm_le, cm_gt, cm_ge, cm_eq, cm_ne, cm_eq2, cm_ne2, qbi_abs, qbi_int, qbi_intb, qbi_gcd, qbi_len2, tr_bl, blanks, isPk, flat, isLst, outM, putS, setSl, freshB, ownV, isiD, tyTag, evT, bindT, items, srcE, isNon, bools, isOw, SL, ixNat, il0, il1, il2,  qbi_all2, qbi_all1] at e ⊢
  rw [e]
  simp [gI]
theorem r_fr (n : Nat) (t b : Int) (hb : b ≠ 0) (hs : b.natAbs < BB) : R (n+2) 29 [.int t, .int b] = .ok (frD t b) .non := by
  have hd : divOk (gS t b) = true := divOk_of (fr_split t b hb).1 (Nat.lt_of_le_of_lt (gI_le t b hb) (Nat.lt_trans hs (by decide)))
  have e1 := r_gcd n t b hs
  rw [R, run_succ rfl]
  unfold frD frT frB
  by_cases h : 0 < b
  · have e : gS t b = gI t b := by unfold gS; rw [if_pos h]
    have h' : ¬ b < 0 := by omega
    rw [e] at hd ⊢
    simp [callF, d_law_fraction, d_law_fraction_N, d_law_fraction_b, exs, ex, ev, evL, evP, callF, Out.bind, Out.val, Out.nox, Out.toV, Out.toS, FR.seq, pdv, tst, gets, Sl.get, Pd.get, getsAll, ix0, ix1, op_add, op_sub, op_mul, op_fdiv, op_mod, cm_lt, cm_le, cm_gt, cm_ge, cm_eq, cm_ne, cm_eq2, cm_ne2, qbi_abs, qbi_int, qbi_intb, qbi_gcd, qbi_len2, tr_bl, blanks, isPk, flat, isLst, outM, putS, setSl, freshB, ownV, isiD, tyTag, evT, bindT, items, srcE, isNon, bools, isOw, SL, ixNat, il0, il1, il2,  qbi_all2, qbi_all1, h, hd, h', e1]
  · have e : gS t b = -gI t b := by unfold gS; rw [if_neg h]
    have h' : b < 0 := by omega
    have z : (0 : Int) - gI t b = -gI t b := by omega
    rw [e] at hd ⊢
    simp [callF, d_law_fraction, d_law_fraction_N, d_law_fraction_b, exs, ex, ev, evL, evP, callF, Out.bind, Out.val, Out.nox, Out.toV, Out.toS, FR.seq, pdv, tst, gets, Sl.get, Pd.get, getsAll, ix0, ix1, op_add, op_sub, op_mul, op_fdiv, op_mod, cm_lt, cm_le, cm_gt, cm_ge, cm_eq, cm_ne, cm_eq2, cm_ne2, qbi_abs, qbi_int, qbi_intb, qbi_gcd, qbi_len2, tr_bl, blanks, isPk, flat, isLst, outM, putS, setSl, freshB, ownV, isiD, tyTag, evT, bindT, items, srcE, isNon, bools, isOw, SL, ixNat, il0, il1, il2,  qbi_all2, qbi_all1, h, hd, h', e1, z]
abbrev KA : Nat := 100000000000000000000
theorem KA42 : KA ≤ K42 := by decide
theorem two_lt {i j : Int} (h1 : i.natAbs ≤ KA) (h2 : j.natAbs ≤ KA) : (i * j).natAbs < BB := Nat.lt_of_le_of_lt (mul_le h1 h2) (by decide)
/-- what comes of two numbers is small enough -/
theorem fra_fr {x y : Int} {m : Nat} (hy : y ≠ 0) (h1 : x.natAbs ≤ m) (h2 : y.natAbs ≤ m) : Fra m (frT x y) (frB x y) := by
  obtain ⟨_, _, _, a, b⟩ := fr_split x y hy
  exact ⟨a, b, Nat.le_trans (frT_le x y hy) h1, Nat.le_trans (frB_le x y hy) h2⟩
theorem nm_fr (x y : Int) : Nm (frD x y) (frT x y) (frB x y) := .inl rfl
/-- a number as the law makes it: the value, and its fraction -/
def NmD (d : D) (p q : Int) : D := .tup [d, .tup [.int p, .int q]]
theorem r_some (n : Nat) {k a b c : Int} (h : Dc k a b c) (hk : k ≤ 9000) :
    ∃ d p q a' c', R (n+4) 32 [dcD a b c] = .ok (NmD d p q) (dcD a' b c') ∧ Nm d p q ∧ Fra KA p q ∧ Dc (k+5) a' b c' := by
  obtain ⟨i1, x1, a1, c1, e1, hx1, D1⟩ := r_pick (n+1) h (by omega) [.int 2, .int 9, .int 40, .int 100000000000000000000] (by decide) (by decide)
  have hm : ∃ m : Int, x1 = .int m ∧ 0 ≤ m ∧ m ≤ 100000000000000000000 := by
    match i1, hx1 with
    | 0, hx1 => cases hx1; exact ⟨_, rfl, by decide, by decide⟩
    | 1, hx1 => cases hx1; exact ⟨_, rfl, by decide, by decide⟩
    | 2, hx1 => cases hx1; exact ⟨_, rfl, by decide, by decide⟩
    | 3, hx1 => cases hx1; exact ⟨_, rfl, by decide, by decide⟩
    | i + 4, hx1 => simp at hx1
  obtain ⟨m, rfl, m0, m1⟩ := hm
  obtain ⟨v, a2, c2, e2, v0, v1, D2⟩ := r_near (n+1) D1 (by omega) m0 (Nat.lt_of_le_of_lt (by omega : _ ≤ 100000000000000000000) (by decide))
  obtain ⟨i3, x3, a3, c3, e3, hx3, D3⟩ := r_pick (n+1) D2 (by omega) [.int 1, .int 3, .int 12, .int 1000000000] (by decide) (by decide)
  have hm3 : ∃ m : Int, x3 = .int m ∧ 0 < m ∧ m ≤ 1000000000 := by
    match i3, hx3 with
    | 0, hx1 => cases hx1; exact ⟨_, rfl, by decide, by decide⟩
    | 1, hx1 => cases hx1; exact ⟨_, rfl, by decide, by decide⟩
    | 2, hx1 => cases hx1; exact ⟨_, rfl, by decide, by decide⟩
    | 3, hx1 => cases hx1; exact ⟨_, rfl, by decide, by decide⟩
    | i + 4, hx1 => simp at hx1
  obtain ⟨m3, rfl, m30, m31⟩ := hm3
  obtain ⟨r4, a4, c4, e4, r40, r41, D4⟩ := r_roll (n+2) D3 (by omega) m30 (Nat.lt_of_le_of_lt (by omega : _ ≤ 1000000000) (by decide))
  have hb : (1 + r4) ≠ 0 := by omega
  have e5 := r_fr (n+1) v (1 + r4) hb (Nat.lt_of_le_of_lt (by omega : _ ≤ 1000000001) (by decide))
  have F : Fra KA (frT v (1 + r4)) (frB v (1 + r4)) := fra_fr hb (by unfold KA; omega) (by unfold KA; omega)
  obtain ⟨r6, a6, c6, e6, r60, r61, D6⟩ := r_roll (n+2) D4 (by omega) (t := 2) (by decide) (by decide)
  have p20 : opD .pow (.int 10) (.int 20) = some (.int 100000000000000000000) := rfl
  have p9 : opD .pow (.int 10) (.int 9) = some (.int 1000000000) := rfl
  have gen : ∀ x y : Int, frT v (1 + r4) = x → frB v (1 + r4) = y → ∃ d a' c', R (n+4) 32 [dcD a b c] = .ok (NmD d x y) (dcD a' b c') ∧ Nm d x y ∧ Dc (k+5) a' b c' := fun x y hx hy => by
    unfold frD at e5
    rw [hx, hy] at e5
    by_cases hq : y = 1
    · by_cases h6 : r6 = 0
      · refine ⟨.int x, a6, c6, ?_, .inr ⟨hq, rfl⟩, D6.mono (by omega)⟩
        subst h6
        rw [R, run_succ rfl]
        simp [callF, d_law_number_some, d_law_number_some_N, d_law_number_some_b, exs, ex, ev, evL, evP, callF, Out.bind, Out.val, Out.nox, Out.toV, Out.toS, FR.seq, pdv, tst, gets, Sl.get, Pd.get, getsAll, ix0, ix1, op_add, op_sub, op_mul, op_fdiv, op_mod, cm_lt, cm_le, cm_gt, cm_ge, cm_eq, cm_ne, cm_eq2, cm_ne2, qbi_abs, qbi_int, qbi_intb, qbi_gcd, qbi_len2, tr_bl, blanks, isPk, flat, isLst, outM, putS, setSl, freshB, ownV, isiD, tyTag, evT, bindT, items, srcE, isNon, bools, isOw, SL, ixNat, il0, il1, il2,  qbi_all2, qbi_all1, e1, e2, e3, e4, e5, e6, p20, p9, hq, NmD]
      · have h6' : (r6 == 0) = false := by simp [h6]
        refine ⟨.tup [.int x, .int y], a6, c6, ?_, .inl rfl, D6.mono (by omega)⟩
        rw [R, run_succ rfl]
        simp [callF, d_law_number_some, d_law_number_some_N, d_law_number_some_b, exs, ex, ev, evL, evP, callF, Out.bind, Out.val, Out.nox, Out.toV, Out.toS, FR.seq, pdv, tst, gets, Sl.get, Pd.get, getsAll, ix0, ix1, op_add, op_sub, op_mul, op_fdiv, op_mod, cm_lt, cm_le, cm_gt, cm_ge, cm_eq, cm_ne, cm_eq2, cm_ne2, qbi_abs, qbi_int, qbi_intb, qbi_gcd, qbi_len2, tr_bl, blanks, isPk, flat, isLst, outM, putS, setSl, freshB, ownV, isiD, tyTag, evT, bindT, items, srcE, isNon, bools, isOw, SL, ixNat, il0, il1, il2,  qbi_all2, qbi_all1, e1, e2, e3, e4, e5, e6, p20, p9, hq, NmD, h6']
    · have hq' : (y == 1) = false := by simp [hq]
      refine ⟨.tup [.int x, .int y], a4, c4, ?_, .inl rfl, D4.mono (by omega)⟩
      rw [R, run_succ rfl]
      simp [callF, d_law_number_some, d_law_number_some_N, d_law_number_some_b, exs, ex, ev, evL, evP, callF, Out.bind, Out.val, Out.nox, Out.toV, Out.toS, FR.seq, pdv, tst, gets, Sl.get, Pd.get, getsAll, ix0, ix1, op_add, op_sub, op_mul, op_fdiv, op_mod, cm_lt, cm_le, cm_gt, cm_ge, cm_eq, cm_ne, cm_eq2, cm_ne2, qbi_abs, qbi_int, qbi_intb, qbi_gcd, qbi_len2, tr_bl, blanks, isPk, flat, isLst, outM, putS, setSl, freshB, ownV, isiD, tyTag, evT, bindT, items, srcE, isNon, bools, isOw, SL, ixNat, il0, il1, il2,  qbi_all2, qbi_all1, e1, e2, e3, e4, e5, e6, p20, p9, hq', NmD]
  obtain ⟨d, a', c', h1, h2, h3⟩ := gen _ _ rfl rfl
  exact ⟨d, _, _, a', c', h1, h2, F, h3⟩
end TT

set_option maxHeartbeats 4000000
set_option exponentiation.threshold 2000
namespace TT
open PySem
theorem cm_neb (a b : Bool) : cmpD .ne (.bl a) (.bl b) = some (!(a == b)) := rfl
theorem r_lowest (n : Nat) (t b : Int) (hb : b ≠ 0) (h1 : t.natAbs < 1000000000000000000000000000000000000000000000000000000000000) (h2 : b.natAbs < 1000000000000000000000000000000000000000000000000000000000000) : R (n+4) 16 [.int t, .int b] = .ok (frD t b) .non := by
  have e1 := r_int_i n t h1
  have e2 := r_int_i n b h2
  have e3 := r_low (n+2) t b hb (Nat.lt_trans h2 (by decide))
  have hb' : (b == 0) = false := by simp [hb]
  rw [R, run_succ rfl]
  simp [callF, d_lowest, d_lowest_N, d_lowest_b, exs, ex, ev, evL, evP, callF, Out.bind, Out.val, Out.nox, Out.toV, Out.toS, FR.seq, pdv, tst, gets, Sl.get, Pd.get, getsAll, ix0, ix1, op_add, op_sub, op_mul, op_fdiv, op_mod, cm_lt, cm_le, cm_gt, cm_ge, cm_eq, cm_ne, cm_eq2, cm_ne2, qbi_abs, qbi_int, qbi_intb, qbi_gcd, qbi_len2, tr_bl, blanks, isPk, flat, isLst, outM, putS, setSl, freshB, ownV, isiD, tyTag, evT, bindT, items, srcE, isNon, bools, isOw, SL, ixNat, il0, il1, il2,  qbi_all2, qbi_all1, e1, e2, e3, hb', frD]
section
variable {p q p' q' : Int} {d d' : D} (n : Nat) (h : Fra KA p q) (k : Nm d p q) (h' : Fra KA p' q') (k' : Nm d' p' q')
include h k h' k'
theorem r_two : R (n+7) 33 [NmD d p q, NmD d' p' q'] = .ok (.bl true) .non := by
  have H := h.mono KA42
  have H' := h'.mono KA42
  have q0 := h.pos
  have q0' := h'.pos
  have yz : q * q' ≠ 0 := mul_nz h.pos h'.pos
  have M1 : (p * q').natAbs ≤ KA * KA := mul_le h.tp h'.bt
  have M2 : (p' * q).natAbs ≤ KA * KA := mul_le h'.tp h.bt
  have M3 : (q * q').natAbs ≤ KA * KA := mul_le h.bt h'.bt
  have M4 : (p * p').natAbs ≤ KA * KA := mul_le h.tp h'.tp
  have KK : KA * KA + KA * KA ≤ K42 := by decide
  have KB : KA * KA < BB := by decide
  have FT : Fra K42 (frT (p * q' + p' * q) (q * q')) (frB (p * q' + p' * q) (q * q')) := fra_fr yz (by omega) (by omega)
  have FP : Fra K42 (frT (p * p') (q * q')) (frB (p * p') (q * q')) := fra_fr yz (by omega) (by omega)
  -- the law's own sum and product
  have a1 : R (n+6) 30 [.tup [.int p, .int q], .tup [.int p', .int q']] = .ok (frD (p * q' + p' * q) (q * q')) .non := by
    have e := r_fr (n+3) (p * q' + p' * q) (q * q') yz (by omega)
    rw [R, run_succ rfl]
    simp [callF, d_law_fr_plus, d_law_fr_plus_N, d_law_fr_plus_b, exs, ex, ev, evL, evP, callF, Out.bind, Out.val, Out.nox, Out.toV, Out.toS, FR.seq, pdv, tst, gets, Sl.get, Pd.get, getsAll, ix0, ix1, op_add, op_sub, op_mul, op_fdiv, op_mod, cm_lt, cm_le, cm_gt, cm_ge, cm_eq, cm_ne, cm_eq2, cm_ne2, qbi_abs, qbi_int, qbi_intb, qbi_gcd, qbi_len2, tr_bl, blanks, isPk, flat, isLst, outM, putS, setSl, freshB, ownV, isiD, tyTag, evT, bindT, items, srcE, isNon, bools, isOw, SL, ixNat, il0, il1, il2,  qbi_all2, qbi_all1, mo H.tp H'.bt, mo H'.tp H.bt, mo H.bt H'.bt, e, frD]
  have a2 : R (n+6) 31 [.tup [.int p, .int q], .tup [.int p', .int q']] = .ok (frD (p * p') (q * q')) .non := by
    have e := r_fr (n+3) (p * p') (q * q') yz (by omega)
    rw [R, run_succ rfl]
    simp [callF, d_law_fr_times, d_law_fr_times_N, d_law_fr_times_b, exs, ex, ev, evL, evP, callF, Out.bind, Out.val, Out.nox, Out.toV, Out.toS, FR.seq, pdv, tst, gets, Sl.get, Pd.get, getsAll, ix0, ix1, op_add, op_sub, op_mul, op_fdiv, op_mod, cm_lt, cm_le, cm_gt, cm_ge, cm_eq, cm_ne, cm_eq2, cm_ne2, qbi_abs, qbi_int, qbi_intb, qbi_gcd, qbi_len2, tr_bl, blanks, isPk, flat, isLst, outM, putS, setSl, freshB, ownV, isiD, tyTag, evT, bindT, items, srcE, isNon, bools, isOw, SL, ixNat, il0, il1, il2,  qbi_all2, qbi_all1, mo H.tp H'.tp, mo H.bt H'.bt, e, frD]
  have b1 := r_plus n H k H' k'
  have b2 := r_times n H k H' k'
  have b3 := r_minus n FT (nm_fr _ _) H' k'
  have b4 := r_cmp n H k H' k'
  have c1 := fr_cross (p * q' + p' * q) (q * q') yz
  have c2 := fr_cross (p * p') (q * q') yz
  -- the difference
  have i1 : frT (frT (p * q' + p' * q) (q * q') * q' - p' * frB (p * q' + p' * q) (q * q')) (frB (p * q' + p' * q) (q * q') * q') = p ∧ frB (frT (p * q' + p' * q) (q * q') * q' - p' * frB (p * q' + p' * q) (q * q')) (frB (p * q' + p' * q) (q * q') * q') = q := by
    refine fr_is (mul_nz FT.pos q0') ?_ q0 h.cop
    revert c1
    generalize frT (p * q' + p' * q) (q * q') = u
    generalize frB (p * q' + p' * q) (q * q') = v
    intro c1
    grind
  unfold frD at a1 a2 b1 b2 b3
  rw [i1.1, i1.2] at b3
  by_cases z : p' = 0
  · have z' : (p' == 0) = true := by simp [z]
    rw [R, run_succ rfl]
    unfold NmD
    simp [callF, d_law_two_right, d_law_two_right_N, d_law_two_right_b, exs, ex, ev, evL, evP, callF, Out.bind, Out.val, Out.nox, Out.toV, Out.toS, FR.seq, pdv, tst, gets, Sl.get, Pd.get, getsAll, ix0, ix1, op_add, op_sub, op_mul, op_fdiv, op_mod, cm_lt, cm_le, cm_gt, cm_ge, cm_eq, cm_ne, cm_eq2, cm_ne2, qbi_abs, qbi_int, qbi_intb, qbi_gcd, qbi_len2, tr_bl, blanks, isPk, flat, isLst, outM, putS, setSl, freshB, ownV, isiD, tyTag, evT, bindT, items, srcE, isNon, bools, isOw, SL, ixNat, il0, il1, il2,  qbi_all2, qbi_all1, a1, a2, b1, b2, b3, b4, z', mo H.tp H'.bt, mo H'.tp H.bt, frD]
  · have z' : (p' == 0) = false := by simp [z]
    have b5 := r_over n FP (nm_fr _ _) H' k' z
    have b6 := r_over n H k H' k' z
    have nz : q * p' ≠ 0 := Int.mul_ne_zero (by omega) z
    have a3 := r_fr (n+4) (p * q') (q * p') nz (by rw [Int.mul_comm]; omega)
    have i2 : frT (frT (p * p') (q * q') * q') (frB (p * p') (q * q') * p') = p ∧ frB (frT (p * p') (q * q') * q') (frB (p * p') (q * q') * p') = q := by
      refine fr_is (Int.mul_ne_zero (by have := FP.pos; omega) z) ?_ q0 h.cop
      revert c2
      generalize frT (p * p') (q * q') = u
      generalize frB (p * p') (q * q') = v
      intro c2
      grind
    unfold frD at a3 b5 b6
    rw [i2.1, i2.2] at b5
    rw [R, run_succ rfl]
    unfold NmD
    simp [callF, d_law_two_right, d_law_two_right_N, d_law_two_right_b, exs, ex, ev, evL, evP, callF, Out.bind, Out.val, Out.nox, Out.toV, Out.toS, FR.seq, pdv, tst, gets, Sl.get, Pd.get, getsAll, ix0, ix1, op_add, op_sub, op_mul, op_fdiv, op_mod, cm_lt, cm_le, cm_gt, cm_ge, cm_eq, cm_ne, cm_eq2, cm_ne2, qbi_abs, qbi_int, qbi_intb, qbi_gcd, qbi_len2, tr_bl, blanks, isPk, flat, isLst, outM, putS, setSl, freshB, ownV, isiD, tyTag, evT, bindT, items, srcE, isNon, bools, isOw, SL, ixNat, il0, il1, il2,  qbi_all2, qbi_all1, a1, a2, b1, b2, b3, b4, z', a3, b5, b6, mo H.tp H'.bt, mo H'.tp H.bt, mo H.bt H'.tp, frD]
end
end TT

set_option maxHeartbeats 4000000
set_option exponentiation.threshold 2000
namespace TT
open PySem
theorem cop_fmod {p q : Int} (h : 0 < q) (c : Cop p q) : Cop (p.fmod q) q := by
  unfold Cop at c ⊢
  have e : p.fmod q = p - q * p.fdiv q := Int.fmod_def p q
  have d1 : Nat.gcd (p.fmod q).natAbs q.natAbs ∣ p.natAbs := by
    rw [← Int.ofNat_dvd_left]
    have x : ((Nat.gcd (p.fmod q).natAbs q.natAbs : Nat) : Int) ∣ p.fmod q := Int.ofNat_dvd_left.mpr (Nat.gcd_dvd_left ..)
    have y : ((Nat.gcd (p.fmod q).natAbs q.natAbs : Nat) : Int) ∣ q := Int.ofNat_dvd_left.mpr (Nat.gcd_dvd_right ..)
    have z := Int.dvd_add x (Int.dvd_mul_of_dvd_left (b := q) (c := p.fdiv q) y)
    have w : p.fmod q + q * p.fdiv q = p := by omega
    rw [w] at z
    exact z
  have d2 := Nat.dvd_gcd d1 (Nat.gcd_dvd_right (p.fmod q).natAbs q.natAbs)
  rw [c] at d2
  exact Nat.dvd_one.mp d2
theorem r_flr (n : Nat) {p q : Int} {d : D} (h : Fra KA p q) (k : Nm d p q) : R (n+7) 34 [NmD d p q] = .ok (.bl true) .non := by
  have H := h.mono KA42
  have q0 := h.pos
  have tp := h.tp
  have bt := h.bt
  have KB : KA * KA < BB := by decide
  have dk : divOk q = true := divOk_of (by omega) (Nat.lt_of_le_of_lt H.bt K42_lt)
  have em : p.fmod q = p - q * p.fdiv q := Int.fmod_def p q
  obtain ⟨m0, m1⟩ := fm_range (x := p) q0
  have e1 := r_floor n H k
  have e2 := r_rest n H k
  have wb : (p.fdiv q).natAbs ≤ 2 * KA := by
    have x : (q * p.fdiv q).natAbs ≤ 2 * KA := by omega
    have y := natAbs_le_mul (p := p.fdiv q) (k := q) (by omega)
    omega
  have Fw : Fra K42 (p.fdiv q) 1 := ⟨by decide, Nat.gcd_one_right _, Nat.le_trans wb (by decide), by decide⟩
  have Fm : Fra K42 (p.fmod q) q := ⟨q0, cop_fmod q0 h.cop, Nat.le_trans (by omega : _ ≤ KA) KA42, H.bt⟩
  have F1 : Fra K42 1 1 := ⟨by decide, rfl, by decide, by decide⟩
  have mk : mulOk (p.fdiv q) q = true := mo (Nat.le_trans wb (by decide)) H.bt
  have e3 : R (n+6) 29 [.int (p - p.fdiv q * q), .int q] = .ok (.tup [.int (p.fmod q), .int q]) .non := by
    have z : p - p.fdiv q * q = p.fmod q := by rw [em, Int.mul_comm q]
    have ee := r_fr (n+4) (p - p.fdiv q * q) q (by omega) (Nat.lt_of_le_of_lt bt (by decide))
    obtain ⟨x, y⟩ := fr_is (x := p.fmod q) (y := q) (p := p.fmod q) (q := q) (by omega) rfl q0 Fm.cop
    rw [z] at ee ⊢
    rw [ee]
    unfold frD
    rw [x, y]
  have e4 : R (n+6) 17 [.int (p.fdiv q), .tup [.int (p.fmod q), .int q]] = .ok (.tup [.int p, .int q]) .non := by
    have ee := r_plus n Fw (.inr ⟨rfl, rfl⟩) Fm (.inl rfl)
    have z : p.fdiv q * q + p.fmod q * 1 = p := by rw [em, Int.mul_comm q]; omega
    obtain ⟨x, y⟩ := fr_is (x := p) (y := 1 * q) (p := p) (q := q) (by omega) (by rw [Int.one_mul]) q0 h.cop
    rw [z] at ee
    rw [ee]
    unfold frD
    rw [x, y]
  have e5 : R (n+6) 21 [.tup [.int (p.fmod q), .int q], .int 1] = .ok (.int (-1)) .non := by
    have ee := r_cmp n Fm (.inl rfl) F1 (.inr ⟨rfl, rfl⟩)
    rw [ee, if_neg (by omega), if_pos (by omega)]
    rfl
  rw [R, run_succ rfl]
  unfold NmD
  simp [callF, d_law_floor_right, d_law_floor_right_N, d_law_floor_right_b, exs, ex, ev, evL, evP, callF, Out.bind, Out.val, Out.nox, Out.toV, Out.toS, FR.seq, pdv, tst, gets, Sl.get, Pd.get, getsAll, ix0, ix1, op_add, op_sub, op_mul, op_fdiv, op_mod, cm_lt, cm_le, cm_gt, cm_ge, cm_eq, cm_ne, cm_eq2, cm_ne2, qbi_abs, qbi_int, qbi_intb, qbi_gcd, qbi_len2, tr_bl, blanks, isPk, flat, isLst, outM, putS, setSl, freshB, ownV, isiD, tyTag, evT, bindT, items, srcE, isNon, bools, isOw, SL, ixNat, il0, il1, il2,  qbi_all2, qbi_all1, e1, e2, e3, e4, e5, dk, mk]
theorem r_right (n : Nat) {a b c : Int} (h : Dc 0 a b c) : ∃ a' c', R (n+8) 35 [dcD a b c] = .ok (.bl true) (dcD a' b c') := by
  obtain ⟨d, p, q, a1, c1, e1, k1, F1, D1⟩ := r_some (n+3) h (by decide)
  obtain ⟨d', p', q', a2, c2, e2, k2, F2, D2⟩ := r_some (n+3) D1 (by decide)
  obtain ⟨t, a3, c3, e3, t0, t1, D3⟩ := r_near (n+5) D2 (m := 100000000000000) (by decide) (by decide) (by decide)
  obtain ⟨r, a4, c4, e4, r0, r1, D4⟩ := r_roll (n+6) D3 (t := 1000000000) (by decide) (by decide) (by decide)
  have p14 : opD .pow (.int 10) (.int 14) = some (.int 100000000000000) := rfl
  have p9 : opD .pow (.int 10) (.int 9) = some (.int 1000000000) := rfl
  have z : ∀ B : Int, (1 + r) = B → ∃ a' c', R (n+8) 35 [dcD a b c] = .ok (.bl true) (dcD a' b c') := fun B hB => by
    have B0 : 0 < B := by omega
    have B1 : B ≤ 1000000000 := by omega
    have tb : (t * B).natAbs ≤ 100000000000000 * 1000000000 := mul_le (by omega) (by omega)
    have mk : mulOk t B = true := mulOk_of (Nat.lt_of_le_of_lt (by omega : t.natAbs ≤ 100000000000000) (by decide)) (Nat.lt_of_le_of_lt (by omega : B.natAbs ≤ 1000000000) (by decide))
    have f1 := r_lowest (n+3) (t * B) (0 - B) (by omega) (Nat.lt_of_le_of_lt tb (by decide)) (by omega)
    have f2 := r_lowest (n+3) t B (by omega) (by omega) (by omega)
    have f3 := r_fr (n+5) t B (by omega) (Nat.lt_of_le_of_lt (by omega : _ ≤ 1000000000) (by decide))
    obtain ⟨x, y⟩ := fr_is (x := t * B) (y := 0 - B) (p := 0 - t) (q := 1) (by omega) (by grind) (by decide) (Nat.gcd_one_right _)
    unfold frD at f1 f2 f3
    rw [x, y] at f1
    simp only [Int.zero_sub] at f1
    have g1 := r_num (n+3) d p q (F1.mono KA42) k1
    have g2 := r_frac (n+4) p q (F1.mono KA42)
    have g3 : ∃ k : Bool, R (n+7) 13 [d] = .ok (.bl k) .non ∧ isiD 0 d = some k := by
      rcases k1 with rfl | ⟨rfl, rfl⟩
      · exact ⟨false, r_int_t (n+4) _, rfl⟩
      · exact ⟨true, r_int_i (n+4) p (F1.mono KA42).ltp, rfl⟩
    obtain ⟨kk, g3, g4⟩ := g3
    have h1 := r_two n F1 k1 F2 k2
    have h2 := r_two n F2 k2 F1 k1
    have h3 := r_flr n F1 k1
    have h4 := r_flr n F2 k2
    refine ⟨a4, c4, ?_⟩
    rw [R, run_succ rfl]
    unfold NmD at e1 e2 h1 h2 h3 h4
    simp [callF, d_law_right, d_law_right_N, d_law_right_b, exs, ex, ev, evL, evP, callF, Out.bind, Out.val, Out.nox, Out.toV, Out.toS, FR.seq, pdv, tst, gets, Sl.get, Pd.get, getsAll, ix0, ix1, op_add, op_sub, op_mul, op_fdiv, op_mod, cm_lt, cm_le, cm_gt, cm_ge, cm_eq, cm_ne, cm_eq2, cm_ne2, qbi_abs, qbi_int, qbi_intb, qbi_gcd, qbi_len2, tr_bl, blanks, isPk, flat, isLst, outM, putS, setSl, freshB, ownV, evT, bindT, items, srcE, isNon, bools, isOw, SL, ixNat, il0, il1, il2,  qbi_all2, qbi_all1, e1, e2, e3, e4, p14, p9, hB, mk, f1, f2, f3, g1, g2, g3, g4, h1, h2, h3, h4, cm_neb]
  exact z _ rfl
theorem r_dice (n : Nat) (ns : List Int) (s : Nat) (hs : s < 6) (hl : ns.length ≤ 63) : ∃ a b, R (n+1) 24 [.scr ns, .int s] = .ok (dcD a b 0) .non ∧ Dc 0 a b 0 := by
  have p17 : opD .pow (.int 10) (.int 17) = some (.int 100000000000000000) := rfl
  have p57 : opD .pow (.int 10) (.int 57) = some (.int 1000000000000000000000000000000000000000000000000000000000) := rfl
  have p60 : opD .pow (.int 10) (.int 60) = some (.int E60) := rfl
  have ml : opD .mul (.int 1000000000000000000000000000000000000000000000000000000000) (.int E60) = some (.int (1000000000000000000000000000000000000000000000000000000000 * E60)) := by rw [op_mul, if_pos (mulOk_of (by decide) (by decide))]
  have m1 : opD .mul (.int 89) (.int s) = some (.int (89 * s)) := by rw [op_mul, if_pos (mulOk_of (by decide) (Nat.lt_of_le_of_lt (by omega : (s : Int).natAbs ≤ 6) (by decide)))]
  have m2 : opD .mul (.int 1009) (.int s) = some (.int (1009 * s)) := by rw [op_mul, if_pos (mulOk_of (by decide) (Nat.lt_of_le_of_lt (by omega : (s : Int).natAbs ≤ 6) (by decide)))]
  have a1 := op_add (89 * s) 71
  have nl : biD .len [.scr ns] = some (.int ns.length) := rfl
  have step : ∀ cell : Int, ∃ (A S X L Y Y2 Z1 z z2 Z2 Z3 : Int) (k : Bool), biD .int [.int cell] = some (.int cell) ∧ biD .abs [.int cell] = some (.int A) ∧ opD .sub (.int A) (.int 100000000000000000) = some (.int S) ∧ biD .max2 [.int 0, .int S] = some (.int X) ∧
      opD .mod (.int X) (.int (1000000000000000000000000000000000000000000000000000000000 * E60)) = some (.int L) ∧ opD .mod (.int A) (.int 1152921504606846869) = some (.int Y) ∧ opD .mul (.int Y) (.int 71) = some (.int Y2) ∧
      opD .add (.int Y2) (.int (1009 * s)) = some (.int Z1) ∧ cmpD .lt (.int cell) (.int 0) = some k ∧ biD .int [.bl k] = some (.int z) ∧ opD .mul (.int 43) (.int z) = some (.int z2) ∧ opD .add (.int Z1) (.int z2) = some (.int Z2) ∧ opD .add (.int Z2) (.int 31) = some (.int Z3) ∧ Dc 0 L Z3 0 := fun cell => by
    have r1 := fm_range (x := (cell.natAbs : Int)) (t := 1152921504606846869) (by decide)
    have hz : ∀ k : Bool, ∃ z : Int, biD .int [.bl k] = some (.int z) ∧ 0 ≤ z ∧ z ≤ 1 := fun k => by
      cases k
      · exact ⟨0, rfl, by decide, by decide⟩
      · exact ⟨1, rfl, by decide, by decide⟩
    obtain ⟨z, hz, z0, z1⟩ := hz (decide (cell < 0))
    refine ⟨_, _, _, _, _, Int.fmod (cell.natAbs : Int) 1152921504606846869 * 71, _, z, 43 * z, _, _, _, rfl, qbi_abs cell, rfl, rfl, op_mod _ _, op_mod _ _, ?_, rfl, rfl, hz, ?_, rfl, rfl, ⟨(fm_range (by decide)).1, ?_, by decide, by decide⟩⟩
    · rw [op_mul, if_pos (mulOk_of (Nat.lt_of_le_of_lt (by omega : _ ≤ 1152921504606846869) (by decide)) (by decide))]
    · rw [op_mul, if_pos (mulOk_of (by decide) (Nat.lt_of_le_of_lt (by omega : _ ≤ 1) (by decide)))]
    · exact Nat.lt_of_le_of_lt (by omega : _ ≤ 100000000000000000000000) (by decide)
  by_cases h : s < ns.length
  · obtain ⟨A, S, X, L, Y, Y2, Z1, z, z2, Z2, Z3, k, h0, h1, h2, h3, h4, h5, h6, h7, h8, h9, h10, h11, h12, h13⟩ := step (ns[s])
    refine ⟨L, Z3, ?_, h13⟩
    have lt : cmpD .lt (.int s) (.int ns.length) = some true := by rw [cm_lt, decide_eq_true (by omega)]
    have ei : ixD (.scr ns) (.int s) = some (.int ns[s]) := by
      show (ixNat ns.length s).bind (fun k => (ns[k]?).map D.int) = _
      unfold ixNat
      rw [if_pos (by omega), if_pos (by omega)]
      simp [h]
    rw [R, run_succ rfl]
    generalize ns[s] = cell at *
    simp [d_law_dice, d_law_dice_N, d_law_dice_b, exs, ex, ev, evL, evP, callF, Out.bind, Out.val, Out.nox, Out.toV, Out.toS, FR.seq, pdv, tst, gets, Sl.get, Pd.get, getsAll, ix0, ix1, op_fdiv, cm_le, cm_gt, cm_ge, cm_eq, cm_ne, cm_eq2, cm_ne2, qbi_gcd, qbi_len2, tr_bl, blanks, isPk, flat, isLst, outM, putS, setSl, freshB, ownV, evT, bindT, items, srcE, isNon, bools, isOw, SL, ixNat, il0, il1, il2,  qbi_all2, qbi_all1, nl, lt, ei, p17, p57, p60, ml, m2, h0, h1, h2, h3, h4, h5, h6, h7, h8, h9, h10, h11, h12]
  · obtain ⟨A, S, X, L, Y, Y2, Z1, z, z2, Z2, Z3, k, h0, h1, h2, h3, h4, h5, h6, h7, h8, h9, h10, h11, h12, h13⟩ := step (89 * s + 71)
    refine ⟨L, Z3, ?_, h13⟩
    have lt : cmpD .lt (.int s) (.int ns.length) = some false := by rw [cm_lt, decide_eq_false (by omega)]
    rw [R, run_succ rfl]
    generalize (89 * (s : Int) + 71) = cell at *
    simp [d_law_dice, d_law_dice_N, d_law_dice_b, exs, ex, ev, evL, evP, callF, Out.bind, Out.val, Out.nox, Out.toV, Out.toS, FR.seq, pdv, tst, gets, Sl.get, Pd.get, getsAll, ix0, ix1, op_fdiv, cm_le, cm_gt, cm_ge, cm_eq, cm_ne, cm_eq2, cm_ne2, qbi_gcd, qbi_len2, tr_bl, blanks, isPk, flat, isLst, outM, putS, setSl, freshB, ownV, evT, bindT, items, srcE, isNon, bools, isOw, SL, ixNat, il0, il1, il2,  qbi_all2, qbi_all1, nl, lt, p17, p57, p60, ml, m1, m2, a1, h0, h1, h2, h3, h4, h5, h6, h7, h8, h9, h10, h11, h12]
end TT

set_option maxHeartbeats 4000000
set_option exponentiation.threshold 2000
namespace TT
open PySem
/-! ### the law -/
def lawBody : List IS := [.iff (.not (.tcall 35 (.fcall 24 [.var 0, .var 1]) [])) [.ret (.bl false)] []]
theorem law_for (ns : List Int) (hl : ns.length ≤ 63) : ∀ (ds : List D) (x : Sl), (∀ d ∈ ds, ∃ s : Nat, d = .int s ∧ s < 6) → ∃ x', forL [1] (fun e => exs (R 19) GG BB lawBody e) ds [.im (.scr ns), x, .no, .no, .no] = .nx [.im (.scr ns), x', .no, .no, .no]
  | [], x, _ => ⟨x, rfl⟩
  | d :: ds, x, h => by
    obtain ⟨s, rfl, hs⟩ := h d (List.mem_cons_self ..)
    obtain ⟨a, b, e1, D1⟩ := r_dice 18 ns s hs hl
    obtain ⟨a', c', e2⟩ := r_right 11 D1
    obtain ⟨x', ih⟩ := law_for ns hl ds (.im (.int s)) fun d hd => h d (List.mem_cons_of_mem _ hd)
    refine ⟨x', ?_⟩
    have e3 : exs (R 19) GG BB lawBody [.im (.scr ns), .im (.int s), .no, .no, .no] = .nx [.im (.scr ns), .im (.int s), .no, .no, .no] := by
      simp [lawBody, exs, ex, ev, evL, evP, callF, Out.bind, Out.val, Out.nox, Out.toV, Out.toS, FR.seq, pdv, tst, gets, Sl.get, Pd.get, getsAll, ix0, ix1, op_add, op_sub, op_mul, op_fdiv, op_mod, cm_lt, cm_le, cm_gt, cm_ge, cm_eq, cm_ne, cm_eq2, cm_ne2, qbi_abs, qbi_int, qbi_intb, qbi_gcd, qbi_len2, tr_bl, blanks, isPk, flat, isLst, outM, putS, setSl, freshB, ownV, isiD, tyTag, evT, bindT, items, srcE, isNon, bools, isOw, SL, ixNat, il0, il1, il2,  qbi_all2, qbi_all1, e1, e2]
    unfold forL
    have e4 : bindT [1] (.int s) [.im (.scr ns), x, .no, .no, .no] = some [.im (.scr ns), .im (.int s), .no, .no, .no] := rfl
    rw [e4]
    show (match exs (R 19) GG BB lawBody [.im (.scr ns), .im (.int s), .no, .no, .no] with
      | .nx e' => forL [1] (fun e => exs (R 19) GG BB lawBody e) ds e'
      | .ct e' => forL [1] (fun e => exs (R 19) GG BB lawBody e) ds e'
      | .bk e' => .nx e'
      | m => m) = _
    rw [e3]
    exact ih
theorem law_tail (ns : List Int) (x : Sl) : (match exs (R 19) GG BB (d_law_b.drop 1) [.im (.scr ns), x, .no, .no, .no] with | .rt (.bl true) _ _ => true | _ => false) = true := by kernel_rfl
theorem upFrom_lt : ∀ (k : Nat) (lo : Nat) (m : Nat), lo + k ≤ m → ∀ d ∈ upFrom lo k, ∃ s : Nat, d = .int s ∧ s < m
  | 0, _, _, _, d, h => by cases h
  | k + 1, lo, m, hk, d, h => by
    rcases List.mem_cons.mp (show d ∈ D.int lo :: upFrom (lo + 1) k from h) with h | h
    · exact ⟨lo, h, by omega⟩
    · exact upFrom_lt k (lo + 1) m (by omega) d h
theorem callF_plain {C : Orc} {G : List D} {B : Nat} {fi : FI} {ds : List D} (hk : fi.kd = .plain) (hn : ds.length = fi.np) : callF C G B fi ds = (match exs C G B fi.body (ds.map .im ++ blanks (fi.N.length - fi.np)) with
      | .rt d _ _ => CR.ok d .non
      | .nx _ => .ok .non .non
      | .exc x _ => .exc x
      | _ => .bad) := by
  unfold callF
  rw [if_pos hn, hk] <;> rfl
theorem exs_cons {C : Orc} {G : List D} {B : Nat} {s : IS} {r : List IS} {env : Env} : exs C G B (s :: r) env = (ex C G B s env).seq fun e => exs C G B r e := rfl
theorem ex_for {C : Orc} {G : List D} {B : Nat} {t : List Nat} {k : SK} {ss : List IE} {b : List IS} {env env' : Env} {ys : List D} (h1 : srcE C G k ss env = .ok ys env') (h2 : ys.length ≤ SL) : ex C G B (.forr t k ss b) env = forL t (fun e => exs C G B b e) ys env' := by
  show (srcE C G k ss env).toS (fun ys e => if ys.length ≤ SL then forL t (fun e => exs C G B b e) ys e else .bad) = _
  rw [h1]
  show (if ys.length ≤ SL then forL t (fun e => exs C G B b e) ys env' else .bad) = _
  rw [if_pos h2]
theorem seq_nx {m : FR} {k : Env → FR} {e : Env} (h : m = .nx e) : m.seq k = k e := by rw [h]; rfl
theorem law_src (C : Orc) (ns : List Int) : ∃ m : Nat, m ≤ 6 ∧ srcE C GG .rng1 [.bi .max2 [.int 1, .bi .min2 [.int 6, .bi .len [.pk 0]]]] [.im (.scr ns), .no, .no, .no, .no] = .ok (upFrom 0 m) [.im (.scr ns), .no, .no, .no, .no] := by
  obtain ⟨m, hm, m6⟩ : ∃ m : Nat, (if (if (ns.length : Int) < 6 then (ns.length : Int) else 6) > 1 then (if (ns.length : Int) < 6 then (ns.length : Int) else 6) else 1) = (m : Int) ∧ m ≤ 6 := by
    refine ⟨max 1 (min 6 ns.length), ?_, by omega⟩
    split <;> split <;> omega
  have nl : biD .len [.scr ns] = some (.int ns.length) := rfl
  have mn : biD .min2 [.int 6, .int ns.length] = some (.int (if (ns.length : Int) < 6 then (ns.length : Int) else 6)) := rfl
  have mx : biD .max2 [.int 1, .int (if (ns.length : Int) < 6 then (ns.length : Int) else 6)] = some (.int m) := by rw [← hm]; rfl
  have it : items .rng1 [.int m] = some (upFrom 0 m) := by
    show (if decide (-4611686018427387904 ≤ (m : Int)) && decide ((m : Int) ≤ 16777216) then some (upFrom 0 (m : Int).toNat) else none) = _
    rw [decide_eq_true (by omega), decide_eq_true (by omega)]
    rfl
  refine ⟨m, m6, ?_⟩
  generalize hq : (if (ns.length : Int) < 6 then (ns.length : Int) else 6) = q at mn mx
  simp [srcE, ev, evL, evP, callF, Out.bind, Out.val, Out.nox, Out.toV, Out.toS, FR.seq, pdv, tst, gets, Sl.get, Pd.get, getsAll, ix0, ix1, op_add, op_sub, op_mul, op_fdiv, op_mod, cm_lt, cm_le, cm_gt, cm_ge, cm_eq, cm_ne, cm_eq2, cm_ne2, qbi_abs, qbi_int, qbi_intb, qbi_gcd, qbi_len2, tr_bl, blanks, isPk, flat, isLst, outM, putS, setSl, freshB, ownV, isiD, tyTag, evT, bindT, srcE, isNon, bools, isOw, SL, ixNat, il0, il1, il2,  qbi_all2, qbi_all1, nl, mn, mx, it]
theorem law_math (ns : List Int) (hl : ns.length ≤ 63) : ∃ o, run TT0 (csAll.map fun p => .int p.2) BB (19 + 1) 36 [.scr ns] = .ok (.bl true) o := by
  have eG : (csAll.map fun p => D.int p.2) = GG := rfl
  obtain ⟨m, m6, e0⟩ := law_src (R 19) ns
  obtain ⟨x, e1⟩ := law_for ns hl (upFrom 0 m) .no (upFrom_lt m 0 6 (by omega))
  have e2 := law_tail ns x
  refine ⟨.non, ?_⟩
  rw [eG, run_succ (fi := d_law) rfl, callF_plain rfl rfl]
  have e3 : d_law.body = .forr [1] .rng1 [.bi .max2 [.int 1, .bi .min2 [.int 6, .bi .len [.pk 0]]]] lawBody :: d_law_b.drop 1 := rfl
  have e4 : (([D.scr ns]).map Sl.im ++ blanks (d_law.N.length - d_law.np)) = [.im (.scr ns), .no, .no, .no, .no] := rfl
  rw [e3, e4, exs_cons, seq_nx ((ex_for e0 (by rw [upFrom_len]; exact Nat.le_trans m6 (by decide))).trans e1)]
  split at e2
  · rename_i heq
    rw [heq]
  · cases e2
end TT

open PySem PySem.W PyProof.Rows in
theorem PySem.Challenge.cw_tametrees_k00_whole_fractions_holds : PySem.Challenge.rw_tametrees_k00_whole_fractions.Holds := by
  w_on; o_law
  refine HandSHeadRun.head_imp (r := OpenLaw.row PySem.Challenge.rw_tametrees_k00_whole_fractions) (q := TT.hq) (H := TT.hk) (ob := TT.hob) (M := 8000) (loose := TT.hnames) (d := HandSHeadRun.topDef (OpenLaw.row PySem.Challenge.rw_tametrees_k00_whole_fractions).prog 47) (kwd := []) TT.hob_eq
    TT.hrun (by kernel_rfl) (by kernel_rfl) (by kernel_rfl) (by rfl) (by first | assumption | decide +kernel) (by decide +kernel) ⟨rfl, rfl, rfl, rfl, rfl, by decide +kernel⟩ ?hw ?hc
  case hw => w_witness2
  case hc => exact TT.law_walk (l := PySem.Challenge.rw_tametrees_k00_whole_fractions) (S := TT.SK0) (T := TT.TT0) (ds := TT.dsAll) (cs := TT.csAll) (B := TT.BB) (n := 19) (L := 36) (fL := TT.d_law) (x := "script") rfl (by kernel_rfl) (by kernel_rfl) ⟨rfl, by decide, by decide⟩ rfl rfl TT.all_st rfl rfl rfl rfl rfl TT.law_math


