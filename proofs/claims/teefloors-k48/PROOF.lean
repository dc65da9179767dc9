import PyProof.Rows.All
import Wide.All
import OpenK.AllK
import Wide.FinOn
import HandS.ForMost
import HandS.ForExc
import HandS.WordsExc
import HandS.ExcOwn
import HandS.TupAny
import HandS.TupMul
import HandS.Zip
import HandS.IsInst
import HandS.SortOrd
import HandS.SortRule
import HandS.CallLocal
import HandS.Deep
import HandS.DictComp
import HandS.DictTup
import HandS.TupSets
import HandS.SetKeys
import HandS.Flow
import HandS.Defaults
import HandS.TupLe
import HandS.Star
import HandS.TupLen
import KE.DataMinMax
import KE.SortData
import HandS.DictSubView
import PyProof.DictMoreH
import HandS.Style
import KE.GoesZip
import HandS.Call
import KE.KAssignIn
import KE.KStateDown
import HandS.Base
import HandS.Ends
import HandS.More
import HandS.Words
import HandS.Head0
import HandS.Head1
import HandS.Head2
import HandS.HeadEnd
import HandS.HeadHook1
import HandS.HeadHook2
import HandS.ExcIs
import HandS.Exc
import HandS.Small
import HandS.ForList
import HandS.Walk
import HandS.Iter
import PySem.Challenge.RW_teefloors_k48_whole_next_layings
set_option Elab.async false
set_option linter.all false
/-! The mirror's machine: data trees, slots, combinators (no model in sight). -/
noncomputable section
namespace Tee
inductive Sym where
  | cannot | cut | dot | inner | tied
  deriving DecidableEq
def Sym.nn : Sym → Nat
  | .cannot => 0 | .cut => 1 | .dot => 2 | .inner => 3 | .tied => 4
/-- a frozen value -/
inductive D where
  | non | bl (b : Bool) | int (i : Int) | sym (s : Sym) | fn (k : Nat)
  | tup (l : List D) | lst (l : List D) | dct (ks vs : List D) | ins (l : List D)
/-- what a slot holds: a frozen value, or a list, dict, instance that this slot alone holds -/
inductive Sl where
  | no | val (d : D) | lv (l : List D) | dv (ks vs : List D) | iv (l : List D)
abbrev Ss := List Sl
inductive Er where
  | no | go (d : D) (s : Ss)
inductive Lr where
  | no | go (l : List D) (s : Ss)
inductive Sr where
  | no | nx (s : Ss) | bk (s : Ss) | ct (s : Ss) | rt (d : D) | ex
abbrev M := Ss → Er
abbrev L := Ss → Lr
abbrev B := Ss → Sr

/-! ### ints, order, equality -/
def ieq : Int → Int → Bool
  | .ofNat a, .ofNat b => Nat.beq a b
  | .negSucc a, .negSucc b => Nat.beq a b
  | _, _ => false
def ilt : Int → Int → Bool
  | .ofNat a, .ofNat b => Nat.blt a b
  | .negSucc a, .negSucc b => Nat.blt b a
  | .negSucc _, .ofNat _ => true
  | .ofNat _, .negSucc _ => false
/-- a number worked out, then k -/
def frN {α : Type} (n : Nat) (k : Nat → α) : α := match n with
  | 0 => k 0
  | m + 1 => k (m + 1)
def frI {α : Type} (i : Int) (k : Int → α) : α := match i with
  | .ofNat n => frN n fun n => k (.ofNat n)
  | .negSucc n => frN n fun n => k (.negSucc n)
def oint (i : Int) : Option D := frI i fun i => some (.int i)
/-- not too long -/
def few (l : List D) : Bool := Nat.ble l.length 100000
def fit (l : List D) : Option (List D) := match few l with
  | true => some l
  | false => none
def ftup (l : List D) : Option D := match few l with
  | true => some (.tup l)
  | false => none
def flst (l : List D) : Option D := match few l with
  | true => some (.lst l)
  | false => none
/-- ==, where it is served -/
def eqL (f : D → D → Option Bool) : List D → List D → Option Bool
  | [], [] => some true
  | [], _ :: _ => some false
  | _ :: _, [] => some false
  | a :: r, b :: t => match f a b with
    | some true => eqL f r t
    | some false => some false
    | none => none
def eqD : Nat → D → D → Option Bool
  | 0, _, _ => none
  | n + 1, a, b => match a, b with
    | .int i, .int j => some (ieq i j)
    | .sym i, .sym j => some (Nat.beq i.nn j.nn)
    | .bl i, .bl j => some (i == j)
    | .non, .non => some true
    | .tup l, .tup m => eqL (eqD n) l m
    | .non, .tup _ => some false
    | .tup _, .non => some false
    | .sym _, .tup _ => some false
    | .tup _, .sym _ => some false
    | .int _, .tup _ => some false
    | .int _, .sym _ => some false
    | .sym _, .int _ => some false
    | .tup _, .int _ => some false
    | .non, .int _ => some false
    | .int _, .non => some false
    | _, _ => none
def eqv (a b : D) : Option Bool := eqD 8 a b
/-- < of ints and tuples -/
def ltL (f g : D → D → Option Bool) : List D → List D → Option Bool
  | [], [] => some false
  | [], _ :: _ => some true
  | _ :: _, [] => some false
  | a :: r, b :: t => match f a b with
    | some true => ltL f g r t
    | some false => g a b
    | none => none
def ltD : Nat → D → D → Option Bool
  | 0, _, _ => none
  | n + 1, a, b => match a, b with
    | .int i, .int j => some (ilt i j)
    | .sym i, .sym j => some (Nat.blt i.nn j.nn)
    | .tup l, .tup m => ltL (eqD n) (ltD n) l m
    | _, _ => none
def ltv (a b : D) : Option Bool := ltD 8 a b
/-- what sorts: ints, texts, tuples of one kind, pairs of two -/
inductive Ty where
  | i | s | l (t : Ty) | c (t u : Ty)
def hasTy : Ty → D → Bool
  | .i, .int _ => true
  | .s, .sym _ => true
  | .l t, .tup l => l.all (hasTy t)
  | .c t u, .tup [a, b] => hasTy t a && hasTy u b
  | _, _ => false
def full : D → Bool
  | .tup (_ :: _) => true
  | _ => false
/-- sorting by insertion -/
def insD (x : D) : List D → Option (List D)
  | [] => some [x]
  | y :: r => match ltv y x with
    | some true => match insD x r with
      | some z => some (y :: z)
      | none => none
    | some false => some (x :: y :: r)
    | none => none
def sortD : List D → Option (List D)
  | [] => some []
  | x :: r => match sortD r with
    | some z => insD x z
    | none => none
def sortT (t : Ty) (l : List D) : Option (List D) := match l.all (fun d => hasTy t d && full d) with
  | true => sortD l
  | false => none
def memD (x : D) : List D → Option Bool
  | [] => some false
  | y :: r => match eqv y x with
    | some a => match memD x r with
      | some b => some (a || b)
      | none => none
    | none => none
def dedup : List D → Option (List D)
  | [] => some []
  | x :: r => match dedup r with
    | some z => match memD x z with
      | some true => some z
      | some false => some (x :: z)
      | none => none
    | none => none
/-! ### dicts -/
/-- a key: ints, texts, tuples of keys, n deep -/
def keyD : Nat → D → Bool
  | 0, .int _ => true
  | 0, .sym _ => true
  | 0, _ => false
  | _ + 1, .int _ => true
  | _ + 1, .sym _ => true
  | n + 1, .tup l => l.all (keyD n)
  | _ + 1, _ => false
def isTup : D → Bool
  | .tup _ => true
  | _ => false
def dGet (k : D) : List D → List D → Option (Option D)
  | a :: ks, v :: vs => match eqv a k with
    | some true => some (some v)
    | some false => dGet k ks vs
    | none => none
  | [], [] => some none
  | _, _ => none
def dPut (k v : D) : List D → List D → Option (List D × List D)
  | a :: ks, u :: vs => match eqv a k with
    | some true => some (a :: ks, v :: vs)
    | some false => match dPut k v ks vs with
      | some (ks', vs') => some (a :: ks', u :: vs')
      | none => none
    | none => none
  | [], [] => some ([k], [v])
  | _, _ => none
/-- d[k], where it is served -/
def dFind (k : D) (a b : List D) : Option (Option D) := match keyD 7 k && isTup k with
  | true => dGet k a b
  | false => none
/-- d[k] = v, where it is served -/
def dSet (k v : D) (a b : List D) : Option (List D × List D) := match few a && (keyD 7 k && isTup k) with
  | true => dPut k v a b
  | false => none
/-! ### slots -/
noncomputable def gets (s : Ss) : Nat → Sl := List.rec (motive := fun _ => Nat → Sl) (fun _ => .no) (fun x _ ih n => Nat.rec (motive := fun _ => Sl) x (fun m _ => ih m) n) s
noncomputable def sets (s : Ss) : Nat → Sl → Ss := List.rec (motive := fun _ => Nat → Sl → Ss) (fun _ _ => []) (fun x r ih n y => Nat.rec (motive := fun _ => Ss) (y :: r) (fun m _ => x :: ih m y) n) s
def isLive : Sl → Bool
  | .lv _ => true
  | .dv _ _ => true
  | .iv _ => true
  | _ => false
/-- the slot i is held by itself *)-/
def pkE (i : Nat) (m : M) : M := fun s => match isLive (gets s i) with
  | true => m s
  | false => .no
def isDv : Sl → Bool
  | .dv _ _ => true
  | _ => false
def isLv : Sl → Bool
  | .lv _ => true
  | _ => false
def pkD (i : Nat) (m : M) : M := fun s => match isDv (gets s i) with
  | true => m s
  | false => .no
def pkL (i : Nat) (m : B) : B := fun s => match isLv (gets s i) with
  | true => m s
  | false => .no
def pkS (i : Nat) (m : B) : B := fun s => match isLive (gets s i) with
  | true => m s
  | false => .no
/-! ### operators -/
def oAdd : D → D → Option D
  | .int i, .int j => oint (i + j)
  | .tup l, .tup m => ftup (l ++ m)
  | .lst l, .lst m => flst (l ++ m)
  | _, _ => none
def oSub : D → D → Option D
  | .int i, .int j => oint (i - j)
  | _, _ => none
def oMul : D → D → Option D
  | .int i, .int j => match ilt i 18446744073709551616 && ilt (-18446744073709551616) i with
    | true => oint (i * j)
    | false => match ilt j 18446744073709551616 && ilt (-18446744073709551616) j with
      | true => oint (i * j)
      | false => none
  | .tup (a :: l), .int j => match ieq j 1 with
    | true => some (.tup (a :: l))
    | false => match ieq j 0 with
      | true => some (.tup [])
      | false => none
  | _, _ => none
def oMod : D → D → Option D
  | .int i, .int j => match ilt 0 j with
    | true => oint (i % j)
    | false => none
  | _, _ => none
def oDiv : D → D → Option D
  | .int i, .int j => match ilt 0 j && ilt j 1073741824 with
    | true => oint (i / j)
    | false => none
  | _, _ => none
def oNeg : D → Option D
  | .int i => oint (-i)
  | _ => none
def ob : Option Bool → Option D
  | some b => some (.bl b)
  | none => none
def onb : Option Bool → Option D
  | some b => some (.bl (!b))
  | none => none
/-- two of one kind -/
def kin : D → D → Bool
  | .int _, .int _ => true
  | .sym _, .sym _ => true
  | .bl _, .bl _ => true
  | .non, .non => true
  | .tup _, .tup _ => true
  | _, _ => false
def oEq (a b : D) : Option D := match kin a b with
  | true => ob (eqv a b)
  | false => none
def oNe : D → D → Option D
  | .int a, .int b => some (.bl (!ieq a b))
  | .bl a, .bl b => some (.bl (!(a == b)))
  | _, _ => none
def oLt (a b : D) : Option D := ob (ltv a b)
def oLtI : D → D → Option D
  | .int i, .int j => some (.bl (ilt i j))
  | _, _ => none
def oLeI : D → D → Option D
  | .int i, .int j => some (.bl (!ilt j i))
  | _, _ => none
def oGtI : D → D → Option D
  | .int i, .int j => some (.bl (ilt j i))
  | _, _ => none
def oGeI : D → D → Option D
  | .int i, .int j => some (.bl (!ilt i j))
  | _, _ => none
def oIsN : D → Option D
  | .non => some (.bl true)
  | _ => some (.bl false)
def oNotN : D → Option D
  | .non => some (.bl false)
  | _ => some (.bl true)
def oNeNil : D → Option D
  | .lst [] => some (.bl false)
  | .lst (a :: l) => match (a :: l).all (hasTy (.l .i)) with
    | true => some (.bl true)
    | false => none
  | _ => none
def oIn : D → D → Option D
  | x, .tup l => match l.all (keyD 7) with
    | true => ob (memD x l)
    | false => none
  | x, .lst l => match l.all (keyD 7) with
    | true => ob (memD x l)
    | false => none
  | _, _ => none
def oNotIn : D → D → Option D
  | x, .tup l => match l.all (keyD 7) with
    | true => onb (memD x l)
    | false => none
  | x, .lst l => match l.all (keyD 7) with
    | true => onb (memD x l)
    | false => none
  | _, _ => none
def atD (l : List D) (i : Int) : Option D := match i with
  | .ofNat n => l[n]?
  | .negSucc n => match Nat.ble (n + 1) l.length with
    | true => l[l.length - (n + 1)]?
    | false => none
def oIx : D → D → Option D
  | .tup l, .int i => atD l i
  | .lst l, .int i => atD l i
  | .dct ks vs, k => match dFind k ks vs with
    | some (some v) => some v
    | _ => none
  | _, _ => none
/-- x[a:b], a, b from 0 -/
def oSlc (lo hi : Option Int) : D → Option D
  | .tup l => match lo, hi with
    | none, some (.ofNat b) => some (.tup (l.take b))
    | some (.ofNat a), none => some (.tup (l.drop a))
    | some (.ofNat a), some (.ofNat b) => some (.tup ((l.take b).drop a))
    | _, _ => none
  | .lst l => match lo, hi with
    | none, some (.ofNat b) => some (.lst (l.take b))
    | some (.ofNat a), none => some (.lst (l.drop a))
    | some (.ofNat a), some (.ofNat b) => some (.lst ((l.take b).drop a))
    | _, _ => none
  | _ => none
/-- x[:b], x[a:], x[a:b] -/
def oTk : D → D → Option D
  | x, .int b => oSlc none (some b) x
  | _, _ => none
def oDr : D → D → Option D
  | x, .int a => oSlc (some a) none x
  | _, _ => none
def oSl : D → D → D → Option D
  | x, .int a, .int b => oSlc (some a) (some b) x
  | _, _, _ => none
def oD1 (a b : D) : Option D := match keyD 7 a && isTup a with
  | true => some (.dct [a] [b])
  | false => none
def oRules (a b : D) : Option D := some (.ins [a, b, .dct [] [], .dct [] []])
def oFld (k : Nat) : D → Option D
  | .ins l => l[k]?
  | _ => none
/-- x += y of ints -/
def oAddI : D → D → Option D
  | .int i, .int j => oint (i + j)
  | _, _ => none
def oLen : D → Option D
  | .tup l => oint l.length
  | .lst l => oint l.length
  | .dct l _ => oint l.length
  | _ => none
def oAbs : D → Option D
  | .int i => some (.int i.natAbs)
  | _ => none
def oInt : D → Option D
  | .int i => some (.int i)
  | .bl true => some (.int 1)
  | .bl false => some (.int 0)
  | _ => none
def oIsInt : D → Option D
  | .int _ => some (.bl true)
  | .bl _ => some (.bl true)
  | .fn _ => none
  | .ins _ => none
  | .dct _ _ => none
  | _ => some (.bl false)
def oIsBool : D → Option D
  | .bl _ => some (.bl true)
  | .fn _ => none
  | .ins _ => none
  | .dct _ _ => none
  | _ => some (.bl false)
def oIsTup : D → Option D
  | .tup _ => some (.bl true)
  | .fn _ => none
  | .ins _ => none
  | .dct _ _ => none
  | _ => some (.bl false)
def oIsList : D → Option D
  | .lst _ => some (.bl true)
  | .fn _ => none
  | .ins _ => none
  | .dct _ _ => none
  | _ => some (.bl false)
def oIsLT : D → Option D
  | .tup _ => some (.bl true)
  | .lst _ => some (.bl true)
  | .fn _ => none
  | .ins _ => none
  | .dct _ _ => none
  | _ => some (.bl false)
def oIsBS : D → Option D
  | .bl _ => some (.bl true)
  | .sym _ => some (.bl true)
  | .fn _ => none
  | .ins _ => none
  | .dct _ _ => none
  | _ => some (.bl false)
def oTuple : D → Option D
  | .tup l => some (.tup l)
  | .lst l => some (.tup l)
  | _ => none
def oList : D → Option D
  | .tup l => some (.lst l)
  | .lst l => some (.lst l)
  | _ => none
def oSorted (t : Ty) : D → Option D
  | .tup l => match sortT t l with
    | some z => some (.lst z)
    | none => none
  | .lst l => match sortT t l with
    | some z => some (.lst z)
    | none => none
  | _ => none
/-- what a set's members are, by the first -/
def setTy : List D → Ty
  | .tup [_, .sym _] :: _ => .c (.l (.l .i)) .s
  | _ => .l (.l .i)
/-- sorted(set(row)) -/
def oSortedSet : D → Option D
  | .lst l => match l.all (keyD 7) && l.all isTup with
    | true => match dedup l with
      | some z => match Nat.ble z.length 4 with
        | true => match sortT (setTy z) z with
          | some y => some (.lst y)
          | none => none
        | false => none
      | none => none
    | false => none
  | _ => none
def allB : List D → Option Bool
  | [] => some true
  | .bl b :: r => match allB r with
    | some c => some (b && c)
    | none => none
  | _ => none
def oAll : D → Option D
  | .lst l => ob (allB l)
  | _ => none
def sumI : List D → Option Int
  | [] => some 0
  | .int i :: r => match sumI r with
    | some j => some (i + j)
    | none => none
  | _ => none
def oi : Option Int → Option D
  | some i => oint i
  | none => none
def oSum : D → Option D
  | .lst l => oi (sumI l)
  | _ => none
def oSumVals : D → Option D
  | .dct _ vs => oi (sumI vs)
  | _ => none
/-- min(a, b), max(a, b) of pairs of ints: the first one where none is less -/
def ltPr (a b c d : Int) : Bool := ilt a c || (ieq a c && ilt b d)
def oMin2 : D → D → Option D
  | .tup [.int a, .int b], .tup [.int c, .int d] => match ltPr c d a b with
    | true => some (.tup [.int c, .int d])
    | false => some (.tup [.int a, .int b])
  | _, _ => none
def oMax2 : D → D → Option D
  | .tup [.int a, .int b], .tup [.int c, .int d] => match ltPr a b c d with
    | true => some (.tup [.int c, .int d])
    | false => some (.tup [.int a, .int b])
  | _, _ => none
def oMinT : D → Option D
  | .tup [.int a, .int b] => match ilt b a with
    | true => some (.int b)
    | false => some (.int a)
  | _ => none
def oGet (o k v : D) : Option D := match o with
  | .dct ks vs => match dFind k ks vs with
    | some (some u) => some u
    | some none => some v
    | none => none
  | _ => none
/-! ### expressions -/
def eV (i : Nat) : M := fun s => match gets s i with
  | .val d => .go d s
  | .lv l => .go (.lst l) (sets s i (.val (.lst l)))
  | .dv a b => .go (.dct a b) (sets s i (.val (.dct a b)))
  | .iv l => .go (.ins l) (sets s i (.val (.ins l)))
  | .no => .no
def eC (d : D) : M := fun s => .go d s
def e1 (f : D → Option D) (a : M) : M := fun s => match a s with
  | .go x s => match f x with
    | some z => .go z s
    | none => .no
  | .no => .no
def e2 (f : D → D → Option D) (a b : M) : M := fun s => match a s with
  | .go x s => match b s with
    | .go y s => match f x y with
      | some z => .go z s
      | none => .no
    | .no => .no
  | .no => .no
def e3 (f : D → D → D → Option D) (a b c : M) : M := fun s => match a s with
  | .go x s => match b s with
    | .go y s => match c s with
      | .go z s => match f x y z with
        | some z => .go z s
        | none => .no
      | .no => .no
    | .no => .no
  | .no => .no
def eIf (c a b : M) : M := fun s => match c s with
  | .go (.bl true) s => a s
  | .go (.bl false) s => b s
  | _ => .no
def eAnd (a b : M) : M := fun s => match a s with
  | .go (.bl true) s => b s
  | .go (.bl false) s => .go (.bl false) s
  | _ => .no
def eOr (a b : M) : M := fun s => match a s with
  | .go (.bl true) s => .go (.bl true) s
  | .go (.bl false) s => b s
  | _ => .no
def eNot (a : M) : M := fun s => match a s with
  | .go (.bl b) s => .go (.bl (!b)) s
  | _ => .no
/-- a list, or another -/
def eOrL (a b : M) : M := fun s => match a s with
  | .go (.lst []) s => b s
  | .go (.lst (x :: r)) s => .go (.lst (x :: r)) s
  | _ => .no
/-- a OP b OP' c -/
def eCh (f g : D → D → Option D) (a b c : M) : M := fun s => match a s with
  | .go x s => match b s with
    | .go y s => match f x y with
      | some (.bl true) => match c s with
        | .go z s => match g y z with
          | some d => .go d s
          | none => .no
        | .no => .no
      | some (.bl false) => .go (.bl false) s
      | _ => .no
    | .no => .no
  | .no => .no
def aN : L := fun s => .go [] s
def aC (a : M) (r : L) : L := fun s => match a s with
  | .go x s => match r s with
    | .go l s => .go (x :: l) s
    | .no => .no
  | .no => .no
/-- *e -/
def aS (a : M) (r : L) : L := fun s => match a s with
  | .go (.tup x) s => match r s with
    | .go l s => .go (x ++ l) s
    | .no => .no
  | _ => .no
def eTup (a : L) : M := fun s => match a s with
  | .go l s => match ftup l with
    | some d => .go d s
    | none => .no
  | .no => .no
def eLst (a : L) : M := fun s => match a s with
  | .go l s => match flst l with
    | some d => .go d s
    | none => .no
  | .no => .no
def eCall (f : List D → Option D) (a : L) : M := fun s => match a s with
  | .go l s => match f l with
    | some d => .go d s
    | none => .no
  | .no => .no
/-- f(..), f a local name -/
def eCallV (tb : Nat → List D → Option D) (i : Nat) (a : L) : M := fun s => match gets s i with
  | .val (.fn k) => match a s with
    | .go l s => match tb k l with
      | some d => .go d s
      | none => .no
    | .no => .no
  | _ => .no
/-! ### what stays with its slot -/
def ePkIx (i : Nat) (k : M) : M := pkE i fun s => match k s with
  | .go x s => match gets s i with
    | .lv l => match oIx (.lst l) x with
      | some d => .go d s
      | none => .no
    | .dv a b => match oIx (.dct a b) x with
      | some d => .go d s
      | none => .no
    | _ => .no
  | .no => .no
def ePkGet (i : Nat) (k v : M) : M := pkD i fun s => match k s with
  | .go x s => match v s with
    | .go y s => match gets s i with
      | .dv a b => match oGet (.dct a b) x y with
        | some d => .go d s
        | none => .no
      | _ => .no
    | .no => .no
  | .no => .no
def ePkIn (k : M) (i : Nat) : M := fun s => match k s with
  | .go x s => match gets s i with
    | .dv a b => match dFind x a b with
      | some (some _) => .go (.bl true) s
      | some none => .go (.bl false) s
      | none => .no
    | _ => .no
  | .no => .no
/-- d.setdefault(k, v) -/
def ePkSd (i : Nat) (k v : M) : M := pkD i fun s => match k s with
  | .go x s => match v s with
    | .go y s => match gets s i with
      | .dv a b => match dFind x a b with
        | some (some u) => .go u s
        | some none => match dSet x y a b with
          | some (a, b) => .go y (sets s i (.dv a b))
          | none => .no
        | none => .no
      | _ => .no
    | .no => .no
  | .no => .no
/-! ### targets -/
inductive Pt where
  | s (i : Nat) | t (l : List Pt)
def bindN : Nat → Pt → D → Ss → Option Ss
  | 0, _, _, _ => none
  | n + 1, p, d, s => match p with
    | .s i => some (sets s i (.val d))
    | .t ps => match d with
      | .tup ds => bindL (bindN n) ps ds s
      | _ => none
where bindL (f : Pt → D → Ss → Option Ss) : List Pt → List D → Ss → Option Ss
  | [], [], s => some s
  | p :: ps, d :: ds, s => match f p d s with
    | some s => bindL f ps ds s
    | none => none
  | _, _, _ => none
def bind (p : Pt) (d : D) (s : Ss) : Option Ss := bindN 4 p d s
/-! ### what is walked -/
def iOf (a : M) : L := fun s => match a s with
  | .go (.tup l) s => .go l s
  | .go (.lst l) s => .go l s
  | .go (.dct l _) s => .go l s
  | _ => .no
def rangeL : Nat → Int → List D
  | 0, _ => []
  | n + 1, i => .int i :: rangeL n (i + 1)
def iRange (a : M) : L := fun s => match a s with
  | .go (.int i) s => match ilt i 4096 && ilt (-4096) i with
    | true => .go (rangeL i.toNat 0) s
    | false => .no
  | _ => .no
def pairs : List D → List D → List D
  | a :: r, b :: t => .tup [a, b] :: pairs r t
  | _, _ => []
def iItems (a : M) : L := fun s => match a s with
  | .go (.dct ks vs) s => .go (pairs ks vs) s
  | _ => .no
def enumL : Int → List D → List D
  | _, [] => []
  | i, a :: r => .tup [.int i, a] :: enumL (i + 1) r
def iEnum (a : M) : L := fun s => match a s with
  | .go (.tup l) s => .go (enumL 0 l) s
  | _ => .no
def iZip (a b : M) : L := fun s => match a s with
  | .go x s => match b s with
    | .go y s => match x, y with
      | .lst l, .lst m => .go (pairs l m) s
      | .tup l, .tup m => .go (pairs l m) s
      | .lst l, .tup m => .go (pairs l m) s
      | _, _ => .no
    | .no => .no
  | .no => .no
/-! ### comprehensions: own: the slots of its own names -/
def wipeS : List Nat → Ss → Ss
  | [], s => s
  | i :: r, s => wipeS r (sets s i .no)
def lcGo (p : Pt) (own : List Nat) (c : Option M) (e : M) : List D → Ss → Lr
  | [], s => .go [] s
  | x :: r, s => match bind p x s with
    | none => .no
    | some s => match c with
      | none => match e s with
        | .go y s => match lcGo p own c e r (wipeS own s) with
          | .go l s => .go (y :: l) s
          | .no => .no
        | .no => .no
      | some t => match t s with
        | .go (.bl true) s => match e s with
          | .go y s => match lcGo p own c e r (wipeS own s) with
            | .go l s => .go (y :: l) s
            | .no => .no
          | .no => .no
        | .go (.bl false) s => lcGo p own c e r (wipeS own s)
        | _ => .no
def eLC (p : Pt) (own : List Nat) (src : L) (c : Option M) (e : M) : M := fun s => match src s with
  | .go l s => match few l with
    | true => match lcGo p own c e l (wipeS own s) with
      | .go r s => .go (.lst r) s
      | .no => .no
    | false => .no
  | .no => .no
/-- {k: v for p in src} -/
def dcGo (p : Pt) (own : List Nat) (k v : M) : List D → List D → List D → Ss → Er
  | [], a, b, s => .go (.dct a b) s
  | x :: r, a, b, s => match bind p x s with
    | none => .no
    | some s => match k s with
      | .go y s => match v s with
        | .go z s => match dSet y z a b with
          | some (a, b) => dcGo p own k v r a b (wipeS own s)
          | none => .no
        | .no => .no
      | .no => .no
def eDC (p : Pt) (own : List Nat) (src : L) (k v : M) : M := fun s => match src s with
  | .go l s => dcGo p own k v l [] [] (wipeS own s)
  | .no => .no
/-! ### statements -/
def sQ (a b : B) : B := fun s => match a s with
  | .nx s => b s
  | o => o
def sP : B := fun s => .nx s
def sSet (i : Nat) (a : M) : B := fun s => match a s with
  | .go d s => .nx (sets s i (.val d))
  | .no => .no
/-- name = [..] -/
def sNewL (i : Nat) (a : L) : B := fun s => match a s with
  | .go l s => match fit l with
    | some l => .nx (sets s i (.lv l))
    | none => .no
  | .no => .no
/-- name = x + y, lists -/
def sAddL (i : Nat) (a b : M) : B := fun s => match a s with
  | .go (.lst x) s => match b s with
    | .go (.lst y) s => match fit (x ++ y) with
      | some l => .nx (sets s i (.lv l))
      | none => .no
    | _ => .no
  | _ => .no
/-- name = {} -/
def sNewD (i : Nat) : B := fun s => .nx (sets s i (.dv [] []))
/-- name = Rules(a, b) -/
def sNewI (i : Nat) (a b : M) : B := fun s => match a s with
  | .go x s => match b s with
    | .go y s => .nx (sets s i (.iv [x, y, .dct [] [], .dct [] []]))
    | .no => .no
  | .no => .no
def sUnp (p : Pt) (a : M) : B := fun s => match a s with
  | .go d s => match bind p d s with
    | some s => .nx s
    | none => .no
  | .no => .no
/-- the items of a, b, .. = x, y, .. -/
inductive Pr where
  | no | go (l : List Sl) (s : Ss)
abbrev Pa := Ss → Pr
def pN : Pa := fun s => .go [] s
def pC (a : M) (r : Pa) : Pa := fun s => match a s with
  | .go x s => match r s with
    | .go l s => .go (.val x :: l) s
    | .no => .no
  | .no => .no
def pL (r : Pa) : Pa := fun s => match r s with
  | .go l s => .go (.lv [] :: l) s
  | .no => .no
def pD (r : Pa) : Pa := fun s => match r s with
  | .go l s => .go (.dv [] [] :: l) s
  | .no => .no
def parGo : List Nat → List Sl → Ss → Sr
  | [], [], s => .nx s
  | i :: r, d :: t, s => parGo r t (sets s i d)
  | _, _, _ => .no
/-- a, b, .. = x, y, .. -/
def sPar (ks : List Nat) (a : Pa) : B := fun s => match a s with
  | .go l s => parGo ks l s
  | .no => .no
def sApp (i : Nat) (a : M) : B := pkL i fun s => match a s with
  | .go d s => match gets s i with
    | .lv l => match fit (l ++ [d]) with
      | some l => .nx (sets s i (.lv l))
      | none => .no
    | _ => .no
  | .no => .no
def sExt (i : Nat) (a : M) : B := pkL i fun s => match a s with
  | .go (.lst m) s => match gets s i with
    | .lv l => match fit (l ++ m) with
      | some l => .nx (sets s i (.lv l))
      | none => .no
    | _ => .no
  | _ => .no
/-- name[k] = v -/
def sPutK (i : Nat) (k : M) (y : D) : B := pkS i fun s => match k s with
  | .go x s => match gets s i with
    | .dv a b => match dSet x y a b with
      | some (a, b) => .nx (sets s i (.dv a b))
      | none => .no
    | .lv l => match x with
      | .int (.ofNat n) => match Nat.blt n l.length with
        | true => .nx (sets s i (.lv (l.set n y)))
        | false => .no
      | _ => .no
    | _ => .no
  | .no => .no
def sPut (i : Nat) (k v : M) : B := fun s => match v s with
  | .go y s => sPutK i k y s
  | .no => .no
/-- name.f = v -/
def sFld (i k : Nat) (v : M) : B := fun s => match v s with
  | .go y s => match gets s i with
    | .iv l => .nx (sets s i (.iv (l.set k y)))
    | _ => .no
  | .no => .no
def sAug (i : Nat) (f : D → D → Option D) (a : M) : B := fun s => match gets s i with
  | .val x => match a s with
    | .go y s => match f x y with
      | some z => .nx (sets s i (.val z))
      | none => .no
    | .no => .no
  | _ => .no
def sIf (c : M) (a b : B) : B := fun s => match c s with
  | .go (.bl true) s => a s
  | .go (.bl false) s => b s
  | _ => .no
def sRet (a : M) : B := fun s => match a s with
  | .go d _ => .rt d
  | .no => .no
def sBk : B := fun s => .bk s
def sCt : B := fun s => .ct s
def sEx : B := fun _ => .ex
/-- code that is never come to -/
def sNo : B := fun _ => .no
def sDrop (a : M) : B := fun s => match a s with
  | .go _ s => .nx s
  | .no => .no
def forGo (p : Pt) (b : B) : List D → Ss → Sr
  | [], s => .nx s
  | x :: r, s => match bind p x s with
    | none => .no
    | some s => match b s with
      | .nx s => forGo p b r s
      | .ct s => forGo p b r s
      | .bk s => .nx s
      | o => o
def sFor (p : Pt) (src : L) (b : B) : B := fun s => match src s with
  | .go l s => forGo p b l s
  | .no => .no
def whGo (c : M) (b : B) : Nat → Ss → Sr
  | 0, _ => .no
  | n + 1, s => match c s with
    | .go (.bl true) s => match b s with
      | .nx s => whGo c b n s
      | .ct s => whGo c b n s
      | .bk s => .nx s
      | o => o
    | .go (.bl false) s => .nx s
    | _ => .no
def sWh (n : Nat) (c : M) (b : B) : B := whGo c b n
/-! ### defs -/
def pad : Nat → List D → Ss
  | 0, _ => []
  | n + 1, [] => .no :: pad n []
  | n + 1, d :: r => .val d :: pad n r
/-- k parameters, n slots -/
def runF (k n : Nat) (b : B) (xs : List D) : Option D := match Nat.beq xs.length k with
  | true => match b (pad n xs) with
    | .rt d => some d
    | .nx _ => some .non
    | _ => none
  | false => none
inductive Rx where
  | no | rt (d : D) | ex
def runX (k n : Nat) (b : B) (xs : List D) : Rx := match Nat.beq xs.length k with
  | true => match b (pad n xs) with
    | .rt d => .rt d
    | .nx _ => .rt .non
    | .ex => .ex
    | _ => .no
  | false => .no
def dP (a b : Int) : D := .tup [.int a, .int b]
def dSTEPS : D := .tup [dP 1 0, dP 0 1, dP (-1) 0, dP 0 (-1)]
end Tee
end
noncomputable section
namespace Tee
/-! Tables of what begins rows: a tree of pieces, each with how many rows begin so. -/
inductive Tr where
  | e | c (x y w n : Nat) (sub rest : Tr)
def pc (x y w : Nat) : D := .tup [.int (.ofNat x), .int (.ofNat y), .int (.ofNat w)]
def Tr.out : Tr → List D
  | .e => []
  | .c x y w n _ r => .tup [pc x y w, .int (.ofNat n)] :: r.out
def Tr.tot : Tr → Nat
  | .e => 0
  | .c _ _ _ n _ r => n + r.tot
def isP (x y w : Nat) : D → Bool
  | .tup [.int (.ofNat a), .int (.ofNat b), .int (.ofNat c)] => Nat.beq a x && (Nat.beq b y && Nat.beq c w)
  | _ => false
def Tr.sub (p : D) : Tr → Option Tr
  | .e => none
  | .c x y w _ s r => match isP x y w p with
    | true => some s
    | false => r.sub p
def Tr.walk : List D → Tr → Option Tr
  | [], t => some t
  | p :: ps, t => match t.sub p with
    | some s => Tr.walk ps s
    | none => none
def pc3 (a : Nat × Nat × Nat) : D := pc a.1 a.2.1 a.2.2
/-! ### a statement's call that may raise -/
/-- return f(g(..)), g may raise -/
def sRetX (f : List D → Option D) (g : List D → Rx) (a : L) : B := fun s => match a s with
  | .go l s => match g l with
    | .rt d => match f [d] with
      | some z => .rt z
      | none => .no
    | .ex => .ex
    | .no => .no
  | .no => .no
/-- return e(..), e one of some defs, each may raise; nl slots -/
def sRetC (nl : Nat) (g : Nat → List D → Rx) (m : M) (a : L) : B := fun s => match Nat.beq s.length nl with
  | true => match m s with
    | .go (.fn k) s => match a s with
      | .go l s => match g k l with
        | .rt d => .rt d
        | .ex => .ex
        | .no => .no
      | .no => .no
    | _ => .no
  | false => .no
/-- try: .. except CanNot as x: return z -/
def sTry (m : B) (z : D) : B := fun s => match m s with
  | .rt d => .rt d
  | .ex => .rt z
  | _ => .no
/-! ### draws -/
def drR (a b c n : Int) : Int := match ilt 0 a with
  | true => a % n
  | false =>
    let c1 := c + 1
    let once := ((b + 48271 * c1) * (39373 + c1)) % 2147483647
    let wide := once % 40009 + 7
    let twice := ((once + c1 + b / 1000003) * wide) % 2147483629
    (((twice * 48271 + once) % 2147483587) / 64) % n
def drA (a n : Int) : Int := match ilt 0 a with
  | true => a / n
  | false => a
def drC (a c : Int) : Int := match ilt 0 a with
  | true => c
  | false => c + 1
/-- the next draw of the slot i's list; the list goes on -/
def takeG (i : Nat) (n : Int) : M := fun s => match gets s i with
  | .lv [.int a, .int b, .int c] => match ilt 0 n && ilt n 1000 with
    | true => match (ilt (-1) a && ilt (-1) b) && (ilt b 4611686018427387904 && (ilt (-1) c && ilt c 1000)) with
      | true => .go (.int (drR a b c n)) (sets s i (.lv [.int (drA a n), .int b, .int (drC a c)]))
      | false => .no
    | false => .no
  | _ => .no
/-- take(name, e) -/
def eTake (i : Nat) (m : M) : M := pkE i fun s => match m s with
  | .go (.int n) s => takeG i n s
  | _ => .no
/-- of(name, [..]): one of a list, by the next draw -/
def eOf (i : Nat) (l : L) : M := pkE i fun s => match l s with
  | .go ds s => match takeG i ds.length s with
    | .go (.int (.ofNat k)) s => match ds[k]? with
      | some d => .go d s
      | none => .no
    | _ => .no
  | .no => .no
end Tee
end
noncomputable section
namespace Tee
/-! The tables, printed by the mirror itself. -/
def tr11_1 : Tr := (.c 0 1 0 1 (.c 1 3 3 1 (.c 2 0 1 1 (.c 3 2 2 1 .e .e) .e) .e) (.c 1 0 1 1 (.c 0 2 0 1 (.c 3 1 2 1 (.c 2 3 3 1 .e .e) .e) .e) .e))
def tr11 : Tr := tr11_1
def tr12_1 : Tr := (.c 0 5 0 1 (.c 1 7 3 1 (.c 2 0 1 1 (.c 3 2 2 1 (.c 2 4 0 1 (.c 3 6 2 1 .e .e) .e) .e) .e) .e) .e)
def tr12_2 : Tr := (.c 1 3 3 2 (.c 0 5 0 1 (.c 1 7 3 1 (.c 2 0 1 1 (.c 3 2 2 1 (.c 2 4 1 1 (.c 3 6 2 1 .e .e) .e) .e) .e) .e) (.c 1 4 1 1 (.c 0 6 0 1 (.c 2 0 1 1 (.c 3 2 2 1 (.c 3 5 2 1 (.c 2 7 3 1 .e .e) .e) .e) .e) .e) .e)) .e)
def tr12_3 : Tr := .c 1 3 2 1 tr12_1 tr12_2
def tr12_4 : Tr := (.c 1 7 3 1 (.c 3 1 2 1 (.c 2 3 3 1 (.c 2 4 1 1 (.c 3 6 2 1 .e .e) .e) .e) .e) .e)
def tr12_5 : Tr := (.c 1 4 1 1 (.c 0 6 0 1 (.c 3 1 2 1 (.c 2 3 3 1 (.c 3 5 2 1 (.c 2 7 3 1 .e .e) .e) .e) .e) .e) (.c 1 4 2 1 (.c 0 6 0 1 (.c 3 1 2 1 (.c 2 3 0 1 (.c 3 5 2 1 (.c 2 7 3 1 .e .e) .e) .e) .e) .e) .e))
def tr12_6 : Tr := .c 0 5 0 1 tr12_4 tr12_5
def tr12_7 : Tr := .c 0 2 0 3 tr12_6 .e
def tr12_8 : Tr := .c 1 0 1 3 tr12_7 .e
def tr12_9 : Tr := .c 0 1 0 3 tr12_3 tr12_8
def tr12 : Tr := tr12_9
def tr21_1 : Tr := (.c 3 2 1 1 (.c 4 1 3 1 (.c 5 3 3 1 (.c 6 0 1 1 (.c 7 2 2 1 .e .e) .e) .e) .e) (.c 3 2 2 2 (.c 4 1 0 1 (.c 5 3 3 1 (.c 6 0 1 1 (.c 7 2 2 1 .e .e) .e) .e) (.c 5 0 1 1 (.c 4 2 0 1 (.c 7 1 2 1 (.c 6 3 3 1 .e .e) .e) .e) .e)) .e))
def tr21_2 : Tr := .c 2 0 1 3 tr21_1 .e
def tr21_3 : Tr := .c 1 3 3 3 tr21_2 .e
def tr21_4 : Tr := (.c 2 3 3 2 (.c 4 1 0 1 (.c 5 3 3 1 (.c 6 0 1 1 (.c 7 2 2 1 .e .e) .e) .e) (.c 5 0 1 1 (.c 4 2 0 1 (.c 7 1 2 1 (.c 6 3 3 1 .e .e) .e) .e) .e)) .e)
def tr21_5 : Tr := (.c 3 1 3 1 (.c 2 3 3 1 (.c 5 0 1 1 (.c 4 2 1 1 (.c 7 1 2 1 (.c 6 3 3 1 .e .e) .e) .e) .e) .e) .e)
def tr21_6 : Tr := .c 3 1 2 2 tr21_4 tr21_5
def tr21_7 : Tr := .c 0 2 0 3 tr21_6 .e
def tr21_8 : Tr := .c 1 0 1 3 tr21_7 .e
def tr21_9 : Tr := .c 0 1 0 3 tr21_3 tr21_8
def tr21 : Tr := tr21_9
def tr13_1 : Tr := (.c 0 9 0 1 (.c 1 11 3 1 (.c 2 0 1 1 (.c 3 2 2 1 (.c 2 4 0 1 (.c 3 6 2 1 (.c 2 8 0 1 (.c 3 10 2 1 .e .e) .e) .e) .e) .e) .e) .e) .e)
def tr13_2 : Tr := (.c 1 11 3 1 (.c 2 0 1 1 (.c 3 2 2 1 (.c 2 4 0 1 (.c 3 6 2 1 (.c 2 8 1 1 (.c 3 10 2 1 .e .e) .e) .e) .e) .e) .e) .e)
def tr13_3 : Tr := (.c 1 8 1 1 (.c 0 10 0 1 (.c 2 0 1 1 (.c 3 2 2 1 (.c 2 4 0 1 (.c 3 6 2 1 (.c 3 9 2 1 (.c 2 11 3 1 .e .e) .e) .e) .e) .e) .e) .e) .e)
def tr13_4 : Tr := .c 0 9 0 1 tr13_2 tr13_3
def tr13_5 : Tr := .c 1 7 3 2 tr13_4 .e
def tr13_6 : Tr := .c 1 7 2 1 tr13_1 tr13_5
def tr13_7 : Tr := .c 0 5 0 3 tr13_6 .e
def tr13_8 : Tr := (.c 0 9 0 1 (.c 1 11 3 1 (.c 2 0 1 1 (.c 3 2 2 1 (.c 2 4 1 1 (.c 3 6 2 1 (.c 2 8 0 1 (.c 3 10 2 1 .e .e) .e) .e) .e) .e) .e) .e) .e)
def tr13_9 : Tr := (.c 1 11 3 1 (.c 2 0 1 1 (.c 3 2 2 1 (.c 2 4 1 1 (.c 3 6 2 1 (.c 2 8 1 1 (.c 3 10 2 1 .e .e) .e) .e) .e) .e) .e) .e)
def tr13_10 : Tr := (.c 1 8 1 1 (.c 0 10 0 1 (.c 2 0 1 1 (.c 3 2 2 1 (.c 2 4 1 1 (.c 3 6 2 1 (.c 3 9 2 1 (.c 2 11 3 1 .e .e) .e) .e) .e) .e) .e) .e) .e)
def tr13_11 : Tr := .c 0 9 0 1 tr13_9 tr13_10
def tr13_12 : Tr := .c 1 7 3 2 tr13_11 .e
def tr13_13 : Tr := .c 1 7 2 1 tr13_8 tr13_12
def tr13_14 : Tr := (.c 1 11 3 1 (.c 2 0 1 1 (.c 3 2 2 1 (.c 3 5 2 1 (.c 2 7 3 1 (.c 2 8 1 1 (.c 3 10 2 1 .e .e) .e) .e) .e) .e) .e) .e)
def tr13_15 : Tr := (.c 0 10 0 1 (.c 2 0 1 1 (.c 3 2 2 1 (.c 3 5 2 1 (.c 2 7 3 1 (.c 3 9 2 1 (.c 2 11 3 1 .e .e) .e) .e) .e) .e) .e) .e)
def tr13_16 : Tr := (.c 1 8 2 1 (.c 0 10 0 1 (.c 2 0 1 1 (.c 3 2 2 1 (.c 3 5 2 1 (.c 2 7 0 1 (.c 3 9 2 1 (.c 2 11 3 1 .e .e) .e) .e) .e) .e) .e) .e) .e)
def tr13_17 : Tr := .c 1 8 1 1 tr13_15 tr13_16
def tr13_18 : Tr := .c 0 9 0 1 tr13_14 tr13_17
def tr13_19 : Tr := .c 0 6 0 3 tr13_18 .e
def tr13_20 : Tr := .c 1 4 1 3 tr13_19 .e
def tr13_21 : Tr := .c 0 5 0 3 tr13_13 tr13_20
def tr13_22 : Tr := .c 1 3 3 6 tr13_21 .e
def tr13_23 : Tr := .c 1 3 2 3 tr13_7 tr13_22
def tr13_24 : Tr := (.c 0 9 0 1 (.c 1 11 3 1 (.c 3 1 2 1 (.c 2 3 3 1 (.c 2 4 1 1 (.c 3 6 2 1 (.c 2 8 0 1 (.c 3 10 2 1 .e .e) .e) .e) .e) .e) .e) .e) .e)
def tr13_25 : Tr := (.c 1 11 3 1 (.c 3 1 2 1 (.c 2 3 3 1 (.c 2 4 1 1 (.c 3 6 2 1 (.c 2 8 1 1 (.c 3 10 2 1 .e .e) .e) .e) .e) .e) .e) .e)
def tr13_26 : Tr := (.c 1 8 1 1 (.c 0 10 0 1 (.c 3 1 2 1 (.c 2 3 3 1 (.c 2 4 1 1 (.c 3 6 2 1 (.c 3 9 2 1 (.c 2 11 3 1 .e .e) .e) .e) .e) .e) .e) .e) .e)
def tr13_27 : Tr := .c 0 9 0 1 tr13_25 tr13_26
def tr13_28 : Tr := .c 1 7 3 2 tr13_27 .e
def tr13_29 : Tr := .c 1 7 2 1 tr13_24 tr13_28
def tr13_30 : Tr := (.c 1 11 3 1 (.c 3 1 2 1 (.c 2 3 3 1 (.c 3 5 2 1 (.c 2 7 3 1 (.c 2 8 1 1 (.c 3 10 2 1 .e .e) .e) .e) .e) .e) .e) .e)
def tr13_31 : Tr := (.c 0 10 0 1 (.c 3 1 2 1 (.c 2 3 3 1 (.c 3 5 2 1 (.c 2 7 3 1 (.c 3 9 2 1 (.c 2 11 3 1 .e .e) .e) .e) .e) .e) .e) .e)
def tr13_32 : Tr := (.c 1 8 2 1 (.c 0 10 0 1 (.c 3 1 2 1 (.c 2 3 3 1 (.c 3 5 2 1 (.c 2 7 0 1 (.c 3 9 2 1 (.c 2 11 3 1 .e .e) .e) .e) .e) .e) .e) .e) .e)
def tr13_33 : Tr := .c 1 8 1 1 tr13_31 tr13_32
def tr13_34 : Tr := .c 0 9 0 1 tr13_30 tr13_33
def tr13_35 : Tr := .c 0 6 0 3 tr13_34 .e
def tr13_36 : Tr := (.c 1 11 3 1 (.c 3 1 2 1 (.c 2 3 0 1 (.c 3 5 2 1 (.c 2 7 3 1 (.c 2 8 1 1 (.c 3 10 2 1 .e .e) .e) .e) .e) .e) .e) .e)
def tr13_37 : Tr := (.c 0 10 0 1 (.c 3 1 2 1 (.c 2 3 0 1 (.c 3 5 2 1 (.c 2 7 3 1 (.c 3 9 2 1 (.c 2 11 3 1 .e .e) .e) .e) .e) .e) .e) .e)
def tr13_38 : Tr := (.c 1 8 2 1 (.c 0 10 0 1 (.c 3 1 2 1 (.c 2 3 0 1 (.c 3 5 2 1 (.c 2 7 0 1 (.c 3 9 2 1 (.c 2 11 3 1 .e .e) .e) .e) .e) .e) .e) .e) .e)
def tr13_39 : Tr := .c 1 8 1 1 tr13_37 tr13_38
def tr13_40 : Tr := .c 0 9 0 1 tr13_36 tr13_39
def tr13_41 : Tr := .c 0 6 0 3 tr13_40 .e
def tr13_42 : Tr := .c 1 4 2 3 tr13_41 .e
def tr13_43 : Tr := .c 1 4 1 3 tr13_35 tr13_42
def tr13_44 : Tr := .c 0 5 0 3 tr13_29 tr13_43
def tr13_45 : Tr := .c 0 2 0 9 tr13_44 .e
def tr13_46 : Tr := .c 1 0 1 9 tr13_45 .e
def tr13_47 : Tr := .c 0 1 0 9 tr13_23 tr13_46
def tr13 : Tr := tr13_47
def tr31_1 : Tr := (.c 7 2 1 1 (.c 8 1 3 1 (.c 9 3 3 1 (.c 10 0 1 1 (.c 11 2 2 1 .e .e) .e) .e) .e) (.c 7 2 2 2 (.c 8 1 0 1 (.c 9 3 3 1 (.c 10 0 1 1 (.c 11 2 2 1 .e .e) .e) .e) (.c 9 0 1 1 (.c 8 2 0 1 (.c 11 1 2 1 (.c 10 3 3 1 .e .e) .e) .e) .e)) .e))
def tr31_2 : Tr := .c 6 0 1 3 tr31_1 .e
def tr31_3 : Tr := .c 5 3 3 3 tr31_2 .e
def tr31_4 : Tr := .c 4 1 3 3 tr31_3 .e
def tr31_5 : Tr := (.c 7 2 1 1 (.c 8 1 3 1 (.c 9 3 3 1 (.c 10 0 1 1 (.c 11 2 2 1 .e .e) .e) .e) .e) (.c 7 2 2 2 (.c 8 1 0 1 (.c 9 3 3 1 (.c 10 0 1 1 (.c 11 2 2 1 .e .e) .e) .e) (.c 9 0 1 1 (.c 8 2 0 1 (.c 11 1 2 1 (.c 10 3 3 1 .e .e) .e) .e) .e)) .e))
def tr31_6 : Tr := .c 6 0 1 3 tr31_5 .e
def tr31_7 : Tr := .c 5 3 3 3 tr31_6 .e
def tr31_8 : Tr := (.c 6 3 3 2 (.c 8 1 0 1 (.c 9 3 3 1 (.c 10 0 1 1 (.c 11 2 2 1 .e .e) .e) .e) (.c 9 0 1 1 (.c 8 2 0 1 (.c 11 1 2 1 (.c 10 3 3 1 .e .e) .e) .e) .e)) .e)
def tr31_9 : Tr := (.c 7 1 3 1 (.c 6 3 3 1 (.c 9 0 1 1 (.c 8 2 1 1 (.c 11 1 2 1 (.c 10 3 3 1 .e .e) .e) .e) .e) .e) .e)
def tr31_10 : Tr := .c 7 1 2 2 tr31_8 tr31_9
def tr31_11 : Tr := .c 4 2 0 3 tr31_10 .e
def tr31_12 : Tr := .c 5 0 1 3 tr31_11 .e
def tr31_13 : Tr := .c 4 1 0 3 tr31_7 tr31_12
def tr31_14 : Tr := .c 3 2 2 6 tr31_13 .e
def tr31_15 : Tr := .c 3 2 1 3 tr31_4 tr31_14
def tr31_16 : Tr := .c 2 0 1 9 tr31_15 .e
def tr31_17 : Tr := .c 1 3 3 9 tr31_16 .e
def tr31_18 : Tr := (.c 7 2 1 1 (.c 8 1 3 1 (.c 9 3 3 1 (.c 10 0 1 1 (.c 11 2 2 1 .e .e) .e) .e) .e) (.c 7 2 2 2 (.c 8 1 0 1 (.c 9 3 3 1 (.c 10 0 1 1 (.c 11 2 2 1 .e .e) .e) .e) (.c 9 0 1 1 (.c 8 2 0 1 (.c 11 1 2 1 (.c 10 3 3 1 .e .e) .e) .e) .e)) .e))
def tr31_19 : Tr := .c 6 0 1 3 tr31_18 .e
def tr31_20 : Tr := .c 5 3 3 3 tr31_19 .e
def tr31_21 : Tr := (.c 6 3 3 2 (.c 8 1 0 1 (.c 9 3 3 1 (.c 10 0 1 1 (.c 11 2 2 1 .e .e) .e) .e) (.c 9 0 1 1 (.c 8 2 0 1 (.c 11 1 2 1 (.c 10 3 3 1 .e .e) .e) .e) .e)) .e)
def tr31_22 : Tr := (.c 7 1 3 1 (.c 6 3 3 1 (.c 9 0 1 1 (.c 8 2 1 1 (.c 11 1 2 1 (.c 10 3 3 1 .e .e) .e) .e) .e) .e) .e)
def tr31_23 : Tr := .c 7 1 2 2 tr31_21 tr31_22
def tr31_24 : Tr := .c 4 2 0 3 tr31_23 .e
def tr31_25 : Tr := .c 5 0 1 3 tr31_24 .e
def tr31_26 : Tr := .c 4 1 0 3 tr31_20 tr31_25
def tr31_27 : Tr := .c 2 3 3 6 tr31_26 .e
def tr31_28 : Tr := (.c 6 3 3 2 (.c 8 1 0 1 (.c 9 3 3 1 (.c 10 0 1 1 (.c 11 2 2 1 .e .e) .e) .e) (.c 9 0 1 1 (.c 8 2 0 1 (.c 11 1 2 1 (.c 10 3 3 1 .e .e) .e) .e) .e)) .e)
def tr31_29 : Tr := (.c 7 1 3 1 (.c 6 3 3 1 (.c 9 0 1 1 (.c 8 2 1 1 (.c 11 1 2 1 (.c 10 3 3 1 .e .e) .e) .e) .e) .e) .e)
def tr31_30 : Tr := .c 7 1 2 2 tr31_28 tr31_29
def tr31_31 : Tr := .c 4 2 1 3 tr31_30 .e
def tr31_32 : Tr := .c 5 0 1 3 tr31_31 .e
def tr31_33 : Tr := .c 2 3 3 3 tr31_32 .e
def tr31_34 : Tr := .c 3 1 3 3 tr31_33 .e
def tr31_35 : Tr := .c 3 1 2 6 tr31_27 tr31_34
def tr31_36 : Tr := .c 0 2 0 9 tr31_35 .e
def tr31_37 : Tr := .c 1 0 1 9 tr31_36 .e
def tr31_38 : Tr := .c 0 1 0 9 tr31_17 tr31_37
def tr31 : Tr := tr31_38
def rows11 : List (List (Nat × Nat × Nat)) := [[(0, 1, 0), (1, 3, 3), (2, 0, 1), (3, 2, 2)], [(1, 0, 1), (0, 2, 0), (3, 1, 2), (2, 3, 3)]]
def lays11 : List (List (Nat × Nat × Nat)) := [[(0, 1, 0), (1, 3, 3), (2, 0, 1), (3, 2, 2)], [(0, 2, 0), (1, 0, 1), (2, 3, 3), (3, 1, 2)]]
def rows12 : List (List (Nat × Nat × Nat)) := [[(0, 1, 0), (1, 3, 2), (0, 5, 0), (1, 7, 3), (2, 0, 1), (3, 2, 2), (2, 4, 0), (3, 6, 2)], [(0, 1, 0), (1, 3, 3), (0, 5, 0), (1, 7, 3), (2, 0, 1), (3, 2, 2), (2, 4, 1), (3, 6, 2)], [(0, 1, 0), (1, 3, 3), (1, 4, 1), (0, 6, 0), (2, 0, 1), (3, 2, 2), (3, 5, 2), (2, 7, 3)], [(1, 0, 1), (0, 2, 0), (0, 5, 0), (1, 7, 3), (3, 1, 2), (2, 3, 3), (2, 4, 1), (3, 6, 2)], [(1, 0, 1), (0, 2, 0), (1, 4, 1), (0, 6, 0), (3, 1, 2), (2, 3, 3), (3, 5, 2), (2, 7, 3)], [(1, 0, 1), (0, 2, 0), (1, 4, 2), (0, 6, 0), (3, 1, 2), (2, 3, 0), (3, 5, 2), (2, 7, 3)]]
def lays12 : List (List (Nat × Nat × Nat)) := [[(0, 1, 0), (0, 5, 0), (1, 3, 2), (1, 7, 3), (2, 0, 1), (2, 4, 0), (3, 2, 2), (3, 6, 2)], [(0, 1, 0), (0, 5, 0), (1, 3, 3), (1, 7, 3), (2, 0, 1), (2, 4, 1), (3, 2, 2), (3, 6, 2)], [(0, 1, 0), (0, 6, 0), (1, 3, 3), (1, 4, 1), (2, 0, 1), (2, 7, 3), (3, 2, 2), (3, 5, 2)], [(0, 2, 0), (0, 5, 0), (1, 0, 1), (1, 7, 3), (2, 3, 3), (2, 4, 1), (3, 1, 2), (3, 6, 2)], [(0, 2, 0), (0, 6, 0), (1, 0, 1), (1, 4, 1), (2, 3, 3), (2, 7, 3), (3, 1, 2), (3, 5, 2)], [(0, 2, 0), (0, 6, 0), (1, 0, 1), (1, 4, 2), (2, 3, 0), (2, 7, 3), (3, 1, 2), (3, 5, 2)]]
def rows21 : List (List (Nat × Nat × Nat)) := [[(0, 1, 0), (1, 3, 3), (2, 0, 1), (3, 2, 1), (4, 1, 3), (5, 3, 3), (6, 0, 1), (7, 2, 2)], [(0, 1, 0), (1, 3, 3), (2, 0, 1), (3, 2, 2), (4, 1, 0), (5, 3, 3), (6, 0, 1), (7, 2, 2)], [(0, 1, 0), (1, 3, 3), (2, 0, 1), (3, 2, 2), (5, 0, 1), (4, 2, 0), (7, 1, 2), (6, 3, 3)], [(1, 0, 1), (0, 2, 0), (3, 1, 2), (2, 3, 3), (4, 1, 0), (5, 3, 3), (6, 0, 1), (7, 2, 2)], [(1, 0, 1), (0, 2, 0), (3, 1, 2), (2, 3, 3), (5, 0, 1), (4, 2, 0), (7, 1, 2), (6, 3, 3)], [(1, 0, 1), (0, 2, 0), (3, 1, 3), (2, 3, 3), (5, 0, 1), (4, 2, 1), (7, 1, 2), (6, 3, 3)]]
def lays21 : List (List (Nat × Nat × Nat)) := [[(0, 1, 0), (1, 3, 3), (2, 0, 1), (3, 2, 1), (4, 1, 3), (5, 3, 3), (6, 0, 1), (7, 2, 2)], [(0, 1, 0), (1, 3, 3), (2, 0, 1), (3, 2, 2), (4, 1, 0), (5, 3, 3), (6, 0, 1), (7, 2, 2)], [(0, 1, 0), (1, 3, 3), (2, 0, 1), (3, 2, 2), (4, 2, 0), (5, 0, 1), (6, 3, 3), (7, 1, 2)], [(0, 2, 0), (1, 0, 1), (2, 3, 3), (3, 1, 2), (4, 1, 0), (5, 3, 3), (6, 0, 1), (7, 2, 2)], [(0, 2, 0), (1, 0, 1), (2, 3, 3), (3, 1, 2), (4, 2, 0), (5, 0, 1), (6, 3, 3), (7, 1, 2)], [(0, 2, 0), (1, 0, 1), (2, 3, 3), (3, 1, 3), (4, 2, 1), (5, 0, 1), (6, 3, 3), (7, 1, 2)]]
def rows13 : List (List (Nat × Nat × Nat)) := [[(0, 1, 0), (1, 3, 2), (0, 5, 0), (1, 7, 2), (0, 9, 0), (1, 11, 3), (2, 0, 1), (3, 2, 2), (2, 4, 0), (3, 6, 2), (2, 8, 0), (3, 10, 2)], [(0, 1, 0), (1, 3, 2), (0, 5, 0), (1, 7, 3), (0, 9, 0), (1, 11, 3), (2, 0, 1), (3, 2, 2), (2, 4, 0), (3, 6, 2), (2, 8, 1), (3, 10, 2)], [(0, 1, 0), (1, 3, 2), (0, 5, 0), (1, 7, 3), (1, 8, 1), (0, 10, 0), (2, 0, 1), (3, 2, 2), (2, 4, 0), (3, 6, 2), (3, 9, 2), (2, 11, 3)], [(0, 1, 0), (1, 3, 3), (0, 5, 0), (1, 7, 2), (0, 9, 0), (1, 11, 3), (2, 0, 1), (3, 2, 2), (2, 4, 1), (3, 6, 2), (2, 8, 0), (3, 10, 2)], [(0, 1, 0), (1, 3, 3), (0, 5, 0), (1, 7, 3), (0, 9, 0), (1, 11, 3), (2, 0, 1), (3, 2, 2), (2, 4, 1), (3, 6, 2), (2, 8, 1), (3, 10, 2)], [(0, 1, 0), (1, 3, 3), (0, 5, 0), (1, 7, 3), (1, 8, 1), (0, 10, 0), (2, 0, 1), (3, 2, 2), (2, 4, 1), (3, 6, 2), (3, 9, 2), (2, 11, 3)], [(0, 1, 0), (1, 3, 3), (1, 4, 1), (0, 6, 0), (0, 9, 0), (1, 11, 3), (2, 0, 1), (3, 2, 2), (3, 5, 2), (2, 7, 3), (2, 8, 1), (3, 10, 2)], [(0, 1, 0), (1, 3, 3), (1, 4, 1), (0, 6, 0), (1, 8, 1), (0, 10, 0), (2, 0, 1), (3, 2, 2), (3, 5, 2), (2, 7, 3), (3, 9, 2), (2, 11, 3)], [(0, 1, 0), (1, 3, 3), (1, 4, 1), (0, 6, 0), (1, 8, 2), (0, 10, 0), (2, 0, 1), (3, 2, 2), (3, 5, 2), (2, 7, 0), (3, 9, 2), (2, 11, 3)], [(1, 0, 1), (0, 2, 0), (0, 5, 0), (1, 7, 2), (0, 9, 0), (1, 11, 3), (3, 1, 2), (2, 3, 3), (2, 4, 1), (3, 6, 2), (2, 8, 0), (3, 10, 2)], [(1, 0, 1), (0, 2, 0), (0, 5, 0), (1, 7, 3), (0, 9, 0), (1, 11, 3), (3, 1, 2), (2, 3, 3), (2, 4, 1), (3, 6, 2), (2, 8, 1), (3, 10, 2)], [(1, 0, 1), (0, 2, 0), (0, 5, 0), (1, 7, 3), (1, 8, 1), (0, 10, 0), (3, 1, 2), (2, 3, 3), (2, 4, 1), (3, 6, 2), (3, 9, 2), (2, 11, 3)], [(1, 0, 1), (0, 2, 0), (1, 4, 1), (0, 6, 0), (0, 9, 0), (1, 11, 3), (3, 1, 2), (2, 3, 3), (3, 5, 2), (2, 7, 3), (2, 8, 1), (3, 10, 2)], [(1, 0, 1), (0, 2, 0), (1, 4, 1), (0, 6, 0), (1, 8, 1), (0, 10, 0), (3, 1, 2), (2, 3, 3), (3, 5, 2), (2, 7, 3), (3, 9, 2), (2, 11, 3)], [(1, 0, 1), (0, 2, 0), (1, 4, 1), (0, 6, 0), (1, 8, 2), (0, 10, 0), (3, 1, 2), (2, 3, 3), (3, 5, 2), (2, 7, 0), (3, 9, 2), (2, 11, 3)], [(1, 0, 1), (0, 2, 0), (1, 4, 2), (0, 6, 0), (0, 9, 0), (1, 11, 3), (3, 1, 2), (2, 3, 0), (3, 5, 2), (2, 7, 3), (2, 8, 1), (3, 10, 2)], [(1, 0, 1), (0, 2, 0), (1, 4, 2), (0, 6, 0), (1, 8, 1), (0, 10, 0), (3, 1, 2), (2, 3, 0), (3, 5, 2), (2, 7, 3), (3, 9, 2), (2, 11, 3)], [(1, 0, 1), (0, 2, 0), (1, 4, 2), (0, 6, 0), (1, 8, 2), (0, 10, 0), (3, 1, 2), (2, 3, 0), (3, 5, 2), (2, 7, 0), (3, 9, 2), (2, 11, 3)]]
def lays13 : List (List (Nat × Nat × Nat)) := [[(0, 1, 0), (0, 5, 0), (0, 9, 0), (1, 3, 2), (1, 7, 2), (1, 11, 3), (2, 0, 1), (2, 4, 0), (2, 8, 0), (3, 2, 2), (3, 6, 2), (3, 10, 2)], [(0, 1, 0), (0, 5, 0), (0, 9, 0), (1, 3, 2), (1, 7, 3), (1, 11, 3), (2, 0, 1), (2, 4, 0), (2, 8, 1), (3, 2, 2), (3, 6, 2), (3, 10, 2)], [(0, 1, 0), (0, 5, 0), (0, 10, 0), (1, 3, 2), (1, 7, 3), (1, 8, 1), (2, 0, 1), (2, 4, 0), (2, 11, 3), (3, 2, 2), (3, 6, 2), (3, 9, 2)], [(0, 1, 0), (0, 5, 0), (0, 9, 0), (1, 3, 3), (1, 7, 2), (1, 11, 3), (2, 0, 1), (2, 4, 1), (2, 8, 0), (3, 2, 2), (3, 6, 2), (3, 10, 2)], [(0, 1, 0), (0, 5, 0), (0, 9, 0), (1, 3, 3), (1, 7, 3), (1, 11, 3), (2, 0, 1), (2, 4, 1), (2, 8, 1), (3, 2, 2), (3, 6, 2), (3, 10, 2)], [(0, 1, 0), (0, 5, 0), (0, 10, 0), (1, 3, 3), (1, 7, 3), (1, 8, 1), (2, 0, 1), (2, 4, 1), (2, 11, 3), (3, 2, 2), (3, 6, 2), (3, 9, 2)], [(0, 1, 0), (0, 6, 0), (0, 9, 0), (1, 3, 3), (1, 4, 1), (1, 11, 3), (2, 0, 1), (2, 7, 3), (2, 8, 1), (3, 2, 2), (3, 5, 2), (3, 10, 2)], [(0, 1, 0), (0, 6, 0), (0, 10, 0), (1, 3, 3), (1, 4, 1), (1, 8, 1), (2, 0, 1), (2, 7, 3), (2, 11, 3), (3, 2, 2), (3, 5, 2), (3, 9, 2)], [(0, 1, 0), (0, 6, 0), (0, 10, 0), (1, 3, 3), (1, 4, 1), (1, 8, 2), (2, 0, 1), (2, 7, 0), (2, 11, 3), (3, 2, 2), (3, 5, 2), (3, 9, 2)], [(0, 2, 0), (0, 5, 0), (0, 9, 0), (1, 0, 1), (1, 7, 2), (1, 11, 3), (2, 3, 3), (2, 4, 1), (2, 8, 0), (3, 1, 2), (3, 6, 2), (3, 10, 2)], [(0, 2, 0), (0, 5, 0), (0, 9, 0), (1, 0, 1), (1, 7, 3), (1, 11, 3), (2, 3, 3), (2, 4, 1), (2, 8, 1), (3, 1, 2), (3, 6, 2), (3, 10, 2)], [(0, 2, 0), (0, 5, 0), (0, 10, 0), (1, 0, 1), (1, 7, 3), (1, 8, 1), (2, 3, 3), (2, 4, 1), (2, 11, 3), (3, 1, 2), (3, 6, 2), (3, 9, 2)], [(0, 2, 0), (0, 6, 0), (0, 9, 0), (1, 0, 1), (1, 4, 1), (1, 11, 3), (2, 3, 3), (2, 7, 3), (2, 8, 1), (3, 1, 2), (3, 5, 2), (3, 10, 2)], [(0, 2, 0), (0, 6, 0), (0, 10, 0), (1, 0, 1), (1, 4, 1), (1, 8, 1), (2, 3, 3), (2, 7, 3), (2, 11, 3), (3, 1, 2), (3, 5, 2), (3, 9, 2)], [(0, 2, 0), (0, 6, 0), (0, 10, 0), (1, 0, 1), (1, 4, 1), (1, 8, 2), (2, 3, 3), (2, 7, 0), (2, 11, 3), (3, 1, 2), (3, 5, 2), (3, 9, 2)], [(0, 2, 0), (0, 6, 0), (0, 9, 0), (1, 0, 1), (1, 4, 2), (1, 11, 3), (2, 3, 0), (2, 7, 3), (2, 8, 1), (3, 1, 2), (3, 5, 2), (3, 10, 2)], [(0, 2, 0), (0, 6, 0), (0, 10, 0), (1, 0, 1), (1, 4, 2), (1, 8, 1), (2, 3, 0), (2, 7, 3), (2, 11, 3), (3, 1, 2), (3, 5, 2), (3, 9, 2)], [(0, 2, 0), (0, 6, 0), (0, 10, 0), (1, 0, 1), (1, 4, 2), (1, 8, 2), (2, 3, 0), (2, 7, 0), (2, 11, 3), (3, 1, 2), (3, 5, 2), (3, 9, 2)]]
def rows31 : List (List (Nat × Nat × Nat)) := [[(0, 1, 0), (1, 3, 3), (2, 0, 1), (3, 2, 1), (4, 1, 3), (5, 3, 3), (6, 0, 1), (7, 2, 1), (8, 1, 3), (9, 3, 3), (10, 0, 1), (11, 2, 2)], [(0, 1, 0), (1, 3, 3), (2, 0, 1), (3, 2, 1), (4, 1, 3), (5, 3, 3), (6, 0, 1), (7, 2, 2), (8, 1, 0), (9, 3, 3), (10, 0, 1), (11, 2, 2)], [(0, 1, 0), (1, 3, 3), (2, 0, 1), (3, 2, 1), (4, 1, 3), (5, 3, 3), (6, 0, 1), (7, 2, 2), (9, 0, 1), (8, 2, 0), (11, 1, 2), (10, 3, 3)], [(0, 1, 0), (1, 3, 3), (2, 0, 1), (3, 2, 2), (4, 1, 0), (5, 3, 3), (6, 0, 1), (7, 2, 1), (8, 1, 3), (9, 3, 3), (10, 0, 1), (11, 2, 2)], [(0, 1, 0), (1, 3, 3), (2, 0, 1), (3, 2, 2), (4, 1, 0), (5, 3, 3), (6, 0, 1), (7, 2, 2), (8, 1, 0), (9, 3, 3), (10, 0, 1), (11, 2, 2)], [(0, 1, 0), (1, 3, 3), (2, 0, 1), (3, 2, 2), (4, 1, 0), (5, 3, 3), (6, 0, 1), (7, 2, 2), (9, 0, 1), (8, 2, 0), (11, 1, 2), (10, 3, 3)], [(0, 1, 0), (1, 3, 3), (2, 0, 1), (3, 2, 2), (5, 0, 1), (4, 2, 0), (7, 1, 2), (6, 3, 3), (8, 1, 0), (9, 3, 3), (10, 0, 1), (11, 2, 2)], [(0, 1, 0), (1, 3, 3), (2, 0, 1), (3, 2, 2), (5, 0, 1), (4, 2, 0), (7, 1, 2), (6, 3, 3), (9, 0, 1), (8, 2, 0), (11, 1, 2), (10, 3, 3)], [(0, 1, 0), (1, 3, 3), (2, 0, 1), (3, 2, 2), (5, 0, 1), (4, 2, 0), (7, 1, 3), (6, 3, 3), (9, 0, 1), (8, 2, 1), (11, 1, 2), (10, 3, 3)], [(1, 0, 1), (0, 2, 0), (3, 1, 2), (2, 3, 3), (4, 1, 0), (5, 3, 3), (6, 0, 1), (7, 2, 1), (8, 1, 3), (9, 3, 3), (10, 0, 1), (11, 2, 2)], [(1, 0, 1), (0, 2, 0), (3, 1, 2), (2, 3, 3), (4, 1, 0), (5, 3, 3), (6, 0, 1), (7, 2, 2), (8, 1, 0), (9, 3, 3), (10, 0, 1), (11, 2, 2)], [(1, 0, 1), (0, 2, 0), (3, 1, 2), (2, 3, 3), (4, 1, 0), (5, 3, 3), (6, 0, 1), (7, 2, 2), (9, 0, 1), (8, 2, 0), (11, 1, 2), (10, 3, 3)], [(1, 0, 1), (0, 2, 0), (3, 1, 2), (2, 3, 3), (5, 0, 1), (4, 2, 0), (7, 1, 2), (6, 3, 3), (8, 1, 0), (9, 3, 3), (10, 0, 1), (11, 2, 2)], [(1, 0, 1), (0, 2, 0), (3, 1, 2), (2, 3, 3), (5, 0, 1), (4, 2, 0), (7, 1, 2), (6, 3, 3), (9, 0, 1), (8, 2, 0), (11, 1, 2), (10, 3, 3)], [(1, 0, 1), (0, 2, 0), (3, 1, 2), (2, 3, 3), (5, 0, 1), (4, 2, 0), (7, 1, 3), (6, 3, 3), (9, 0, 1), (8, 2, 1), (11, 1, 2), (10, 3, 3)], [(1, 0, 1), (0, 2, 0), (3, 1, 3), (2, 3, 3), (5, 0, 1), (4, 2, 1), (7, 1, 2), (6, 3, 3), (8, 1, 0), (9, 3, 3), (10, 0, 1), (11, 2, 2)], [(1, 0, 1), (0, 2, 0), (3, 1, 3), (2, 3, 3), (5, 0, 1), (4, 2, 1), (7, 1, 2), (6, 3, 3), (9, 0, 1), (8, 2, 0), (11, 1, 2), (10, 3, 3)], [(1, 0, 1), (0, 2, 0), (3, 1, 3), (2, 3, 3), (5, 0, 1), (4, 2, 1), (7, 1, 3), (6, 3, 3), (9, 0, 1), (8, 2, 1), (11, 1, 2), (10, 3, 3)]]
def lays31 : List (List (Nat × Nat × Nat)) := [[(0, 1, 0), (1, 3, 3), (2, 0, 1), (3, 2, 1), (4, 1, 3), (5, 3, 3), (6, 0, 1), (7, 2, 1), (8, 1, 3), (9, 3, 3), (10, 0, 1), (11, 2, 2)], [(0, 1, 0), (1, 3, 3), (2, 0, 1), (3, 2, 1), (4, 1, 3), (5, 3, 3), (6, 0, 1), (7, 2, 2), (8, 1, 0), (9, 3, 3), (10, 0, 1), (11, 2, 2)], [(0, 1, 0), (1, 3, 3), (2, 0, 1), (3, 2, 1), (4, 1, 3), (5, 3, 3), (6, 0, 1), (7, 2, 2), (8, 2, 0), (9, 0, 1), (10, 3, 3), (11, 1, 2)], [(0, 1, 0), (1, 3, 3), (2, 0, 1), (3, 2, 2), (4, 1, 0), (5, 3, 3), (6, 0, 1), (7, 2, 1), (8, 1, 3), (9, 3, 3), (10, 0, 1), (11, 2, 2)], [(0, 1, 0), (1, 3, 3), (2, 0, 1), (3, 2, 2), (4, 1, 0), (5, 3, 3), (6, 0, 1), (7, 2, 2), (8, 1, 0), (9, 3, 3), (10, 0, 1), (11, 2, 2)], [(0, 1, 0), (1, 3, 3), (2, 0, 1), (3, 2, 2), (4, 1, 0), (5, 3, 3), (6, 0, 1), (7, 2, 2), (8, 2, 0), (9, 0, 1), (10, 3, 3), (11, 1, 2)], [(0, 1, 0), (1, 3, 3), (2, 0, 1), (3, 2, 2), (4, 2, 0), (5, 0, 1), (6, 3, 3), (7, 1, 2), (8, 1, 0), (9, 3, 3), (10, 0, 1), (11, 2, 2)], [(0, 1, 0), (1, 3, 3), (2, 0, 1), (3, 2, 2), (4, 2, 0), (5, 0, 1), (6, 3, 3), (7, 1, 2), (8, 2, 0), (9, 0, 1), (10, 3, 3), (11, 1, 2)], [(0, 1, 0), (1, 3, 3), (2, 0, 1), (3, 2, 2), (4, 2, 0), (5, 0, 1), (6, 3, 3), (7, 1, 3), (8, 2, 1), (9, 0, 1), (10, 3, 3), (11, 1, 2)], [(0, 2, 0), (1, 0, 1), (2, 3, 3), (3, 1, 2), (4, 1, 0), (5, 3, 3), (6, 0, 1), (7, 2, 1), (8, 1, 3), (9, 3, 3), (10, 0, 1), (11, 2, 2)], [(0, 2, 0), (1, 0, 1), (2, 3, 3), (3, 1, 2), (4, 1, 0), (5, 3, 3), (6, 0, 1), (7, 2, 2), (8, 1, 0), (9, 3, 3), (10, 0, 1), (11, 2, 2)], [(0, 2, 0), (1, 0, 1), (2, 3, 3), (3, 1, 2), (4, 1, 0), (5, 3, 3), (6, 0, 1), (7, 2, 2), (8, 2, 0), (9, 0, 1), (10, 3, 3), (11, 1, 2)], [(0, 2, 0), (1, 0, 1), (2, 3, 3), (3, 1, 2), (4, 2, 0), (5, 0, 1), (6, 3, 3), (7, 1, 2), (8, 1, 0), (9, 3, 3), (10, 0, 1), (11, 2, 2)], [(0, 2, 0), (1, 0, 1), (2, 3, 3), (3, 1, 2), (4, 2, 0), (5, 0, 1), (6, 3, 3), (7, 1, 2), (8, 2, 0), (9, 0, 1), (10, 3, 3), (11, 1, 2)], [(0, 2, 0), (1, 0, 1), (2, 3, 3), (3, 1, 2), (4, 2, 0), (5, 0, 1), (6, 3, 3), (7, 1, 3), (8, 2, 1), (9, 0, 1), (10, 3, 3), (11, 1, 2)], [(0, 2, 0), (1, 0, 1), (2, 3, 3), (3, 1, 3), (4, 2, 1), (5, 0, 1), (6, 3, 3), (7, 1, 2), (8, 1, 0), (9, 3, 3), (10, 0, 1), (11, 2, 2)], [(0, 2, 0), (1, 0, 1), (2, 3, 3), (3, 1, 3), (4, 2, 1), (5, 0, 1), (6, 3, 3), (7, 1, 2), (8, 2, 0), (9, 0, 1), (10, 3, 3), (11, 1, 2)], [(0, 2, 0), (1, 0, 1), (2, 3, 3), (3, 1, 3), (4, 2, 1), (5, 0, 1), (6, 3, 3), (7, 1, 3), (8, 2, 1), (9, 0, 1), (10, 3, 3), (11, 1, 2)]]
def trOf : Nat → Nat → Option Tr
  | 1, 1 => some tr11
  | 1, 2 => some tr12
  | 2, 1 => some tr21
  | 1, 3 => some tr13
  | 3, 1 => some tr31
  | _, _ => none
abbrev Ly := List (Nat × Nat × Nat)
def rowsOf : Nat → Nat → Option (List Ly)
  | 1, 2 => some rows12
  | 2, 1 => some rows21
  | 1, 3 => some rows13
  | 3, 1 => some rows31
  | _, _ => none
def laysOf : Nat → Nat → Option (List Ly)
  | 1, 1 => some lays11
  | 1, 2 => some lays12
  | 2, 1 => some lays21
  | 1, 3 => some lays13
  | 3, 1 => some lays31
  | _, _ => none
def t_begun_rows : List D → Option D
  | [.tup [.int (.ofNat a), .int (.ofNat b)], .tup row] => match trOf a b with
    | some t => match Tr.walk row t with
      | some u => some (.lst u.out)
      | none => none
    | none => none
  | _ => none
def t_many_begun : List D → Option D
  | [.tup [.int (.ofNat a), .int (.ofNat b)], .tup []] => match trOf a b with
    | some t => frN t.tot fun n => some (.int (.ofNat n))
    | none => none
  | _ => none
theorem t_begun_len {ds : List D} {d : D} (h : t_begun_rows ds = some d) : ds.length = 2 := by
  unfold t_begun_rows at h
  split at h
  · rfl
  · cases h
theorem t_many_len {ds : List D} {d : D} (h : t_many_begun ds = some d) : ds.length = 2 := by
  unfold t_many_begun at h
  split at h
  · rfl
  · cases h
/-! ### rows and layings -/
def lyT (r : Ly) : D := .tup (r.map pc3)
def pl3 (a : Nat × Nat × Nat) : D := .lst [.int (.ofNat a.1), .int (.ofNat a.2.1), .int (.ofNat a.2.2)]
def lyL (r : Ly) : D := .lst (r.map pl3)
def t_w_rows : List D → Option D
  | [.tup [.int (.ofNat a), .int (.ofNat b)]] => match rowsOf a b with
    | some l => some (.lst (l.map lyT))
    | none => none
  | _ => none
theorem t_rows_len {ds : List D} {d : D} (h : t_w_rows ds = some d) : ds.length = 1 := by
  unfold t_w_rows at h
  split at h
  · rfl
  · cases h
def isLs : List D → Ly → Bool
  | [], [] => true
  | .lst [.int (.ofNat a), .int (.ofNat b), .int (.ofNat c)] :: ps, q :: qs => (Nat.beq a q.1 && (Nat.beq b q.2.1 && Nat.beq c q.2.2)) && isLs ps qs
  | _, _ => false
def isLy : D → Ly → Bool
  | .lst ps, r => isLs ps r
  | _, _ => false
def dCN : D := .lst [.sym .cannot, .bl true]
def orCN : Option Ly → D
  | some r => lyT r
  | none => dCN
def nextOf (l : D) : List Ly → Option D
  | [] => none
  | r :: rest => match isLy l r with
    | true => some (orCN rest.head?)
    | false => nextOf l rest
def prevOf (l : D) : Option Ly → List Ly → Option D
  | _, [] => none
  | p, r :: rest => match isLy l r with
    | true => some (orCN p)
    | false => prevOf l (some r) rest
def deckOf : D → Option (Nat × Nat)
  | .tup [.int (.ofNat a), .int (.ofNat b)] => some (a, b)
  | .lst [.int (.ofNat a), .int (.ofNat b)] => some (a, b)
  | _ => none
def heardBy (door : Nat) (l : D) (ls : List Ly) : Option D := match door with
  | 0 => ls.head?.map lyT
  | 1 => ls.getLast?.map lyT
  | 2 => nextOf l ls
  | 3 => prevOf l none ls
  | _ => none
def t_heard : List D → Option D
  | [.int (.ofNat door), f, l] => match deckOf f with
    | some p => match laysOf p.1 p.2 with
      | some ls => heardBy door l ls
      | none => none
    | none => none
  | _ => none
theorem t_heard_len {ds : List D} {d : D} (h : t_heard ds = some d) : ds.length = 3 := by
  unfold t_heard at h
  split at h
  · rfl
  · cases h
end Tee
end
noncomputable section
namespace Tee
-- is_number: thing
def b_is_number : B := (sRet (eAnd (e1 oIsInt (eV 0)) (eNot (e1 oIsBool (eV 0)))))
def m_is_number (xs : List D) : Option D := runF 1 1 b_is_number xs
-- is_from: thing least
def b_is_from : B := (sRet (eAnd (eCall m_is_number (aC (eV 0) aN)) (e2 oGeI (eV 0) (eV 1))))
def m_is_from (xs : List D) : Option D := runF 2 2 b_is_from xs
-- is_long: thing length
def b_is_long : B := (sRet (eAnd (e1 oIsTup (eV 0)) (e2 oEq (e1 oLen (eV 0)) (eV 1))))
def m_is_long (xs : List D) : Option D := runF 2 2 b_is_long xs
-- tupled: value own
def b_tupled (me : List D → Option D) : B := (sRet (eIf (e1 oIsLT (eV 0)) (e1 oTuple (eLC (.s 1) [1] (iOf (eV 0)) none (eCall me (aC (eV 1) aN)))) (eV 0)))
def m_tupled : Nat → List D → Option D
  | 0, _ => none
  | n + 1, xs => runF 1 2 (b_tupled (m_tupled n)) xs
-- ascends: row k
def b_ascends : B := (sRet (e1 oAll (eLC (.s 1) [1] (iRange (e2 oSub (e1 oLen (eV 0)) (eC (.int 1)))) none (e2 oLt (e2 oIx (eV 0) (eV 1)) (e2 oIx (eV 0) (e2 oAdd (eV 1) (eC (.int 1))))))))
def m_ascends (xs : List D) : Option D := runF 1 2 b_ascends xs
-- set_of: row
def b_set_of : B := (sRet (e1 oTuple (e1 oSortedSet (eV 0))))
def m_set_of (xs : List D) : Option D := runF 1 1 b_set_of xs
-- are_numbers: thing own
def b_are_numbers : B := (sRet (eAnd (e1 oIsTup (eV 0)) (e1 oAll (eLC (.s 1) [1] (iOf (eV 0)) none (eCall m_is_number (aC (eV 1) aN))))))
def m_are_numbers (xs : List D) : Option D := runF 1 2 b_are_numbers xs
-- is_pair: thing
def b_is_pair : B := (sRet (eAnd (eCall m_is_long (aC (eV 0) (aC (eC (.int 2)) aN))) (eCall m_are_numbers (aC (eV 0) aN))))
def m_is_pair (xs : List D) : Option D := runF 1 1 b_is_pair xs
-- is_floor: thing
def b_is_floor : B := (sRet (eAnd (eCall m_is_long (aC (eV 0) (aC (eC (.int 2)) aN))) (eAnd (eCall m_is_from (aC (e2 oIx (eV 0) (eC (.int 0))) (aC (eC (.int 1)) aN))) (eCall m_is_from (aC (e2 oIx (eV 0) (eC (.int 1))) (aC (eC (.int 1)) aN))))))
def m_is_floor (xs : List D) : Option D := runF 1 1 b_is_floor xs
-- sure_floor: floor own
def b_sure_floor : B := (sQ (sSet 1 (eCall (m_tupled 6) (aC (eV 0) aN)))
  (sQ (sIf (eNot (eCall m_is_floor (aC (eV 1) aN))) sNo sP)
  (sRet (eV 1))))
def m_sure_floor (xs : List D) : Option D := runF 1 2 b_sure_floor xs
-- is_block_in: floor thing
def b_is_block_in : B := (sRet (eAnd (eCall m_is_pair (aC (eV 1) aN)) (eAnd (eCh oLeI oLtI (eC (.int 0)) (e2 oIx (eV 1) (eC (.int 0))) (e2 oMul (eC (.int 2)) (e2 oIx (eV 0) (eC (.int 0))))) (eCh oLeI oLtI (eC (.int 0)) (e2 oIx (eV 1) (eC (.int 1))) (e2 oMul (eC (.int 2)) (e2 oIx (eV 0) (eC (.int 1))))))))
def m_is_block_in (xs : List D) : Option D := runF 2 2 b_is_block_in xs
-- pairs_from: low wide high found i j
def b_pairs_from : B := (sQ (sNewL 3 aN)
  (sQ (sFor (.s 4) (iRange (eV 1)) (sExt 3 (eLC (.s 5) [5] (iRange (eV 2)) none (eTup (aC (e2 oAdd (e2 oIx (eV 0) (eC (.int 0))) (eV 4)) (aC (e2 oAdd (e2 oIx (eV 0) (eC (.int 1))) (eV 5)) aN))))))
  (sRet (eV 3))))
def m_pairs_from (xs : List D) : Option D := runF 3 6 b_pairs_from xs
-- blocks_in: floor
def b_blocks_in : B := (sRet (eCall m_pairs_from (aC (eTup (aC (eC (.int 0)) (aC (eC (.int 0)) aN))) (aC (e2 oMul (eC (.int 2)) (e2 oIx (eV 0) (eC (.int 0)))) (aC (e2 oMul (eC (.int 2)) (e2 oIx (eV 0) (eC (.int 1)))) aN)))))
def m_blocks_in (xs : List D) : Option D := runF 1 1 b_blocks_in xs
-- is_piece: thing
def b_is_piece : B := (sRet (eAnd (eCall m_is_long (aC (eV 0) (aC (eC (.int 3)) aN))) (eAnd (eCall m_are_numbers (aC (eV 0) aN)) (eCh oLeI oLeI (eC (.int 0)) (e2 oIx (eV 0) (eC (.int 2))) (eC (.int 3))))))
def m_is_piece (xs : List D) : Option D := runF 1 1 b_is_piece xs
-- beside: cell way right up
def b_beside : B := (sQ (sUnp (.t [(.s 2), (.s 3)]) (e2 oIx (eC dSTEPS) (e2 oMod (eV 1) (eC (.int 4)))))
  (sRet (eTup (aC (e2 oAdd (e2 oIx (eV 0) (eC (.int 0))) (eV 2)) (aC (e2 oAdd (e2 oIx (eV 0) (eC (.int 1))) (eV 3)) aN)))))
def m_beside (xs : List D) : Option D := runF 2 4 b_beside xs
-- cells_in: piece middle way
def b_cells_in : B := (sQ (sPar [1, 2] (pC (e2 oTk (eV 0) (eC (.int 2))) (pC (e2 oIx (eV 0) (eC (.int 2))) pN)))
  (sRet (e1 oTuple (e1 (oSorted (.l .i)) (eLst (aC (eV 1) (aC (eCall m_beside (aC (eV 1) (aC (eV 2) aN))) (aC (eCall m_beside (aC (eV 1) (aC (e2 oAdd (eV 2) (eC (.int 1))) aN))) (aC (eCall m_beside (aC (eV 1) (aC (e2 oSub (eV 2) (eC (.int 1))) aN))) aN)))))))))
def m_cells_in (xs : List D) : Option D := runF 1 3 b_cells_in xs
-- middle_by: block sign east north
def b_middle_by : B := (sQ (sPar [2, 3] (pC (e2 oSub (e2 oMul (eC (.int 2)) (e2 oMod (e2 oIx (eV 0) (eC (.int 0))) (eC (.int 2)))) (eC (.int 1))) (pC (e2 oSub (e2 oMul (eC (.int 2)) (e2 oMod (e2 oIx (eV 0) (eC (.int 1))) (eC (.int 2)))) (eC (.int 1))) pN)))
  (sRet (eTup (aC (e2 oAdd (e2 oMul (eC (.int 2)) (e2 oIx (eV 0) (eC (.int 0)))) (e1 oInt (e2 oEq (e2 oMul (eV 3) (eV 1)) (e1 oNeg (eC (.int 1)))))) (aC (e2 oAdd (e2 oMul (eC (.int 2)) (e2 oIx (eV 0) (eC (.int 1)))) (e1 oInt (e2 oEq (e2 oMul (eV 2) (eV 1)) (eC (.int 1))))) aN)))))
def m_middle_by (xs : List D) : Option D := runF 2 4 b_middle_by xs
-- own_block_in: piece
def b_own_block_in : B := (sRet (eTup (aC (e2 oDiv (e2 oIx (eV 0) (eC (.int 0))) (eC (.int 2))) (aC (e2 oDiv (e2 oIx (eV 0) (eC (.int 1))) (eC (.int 2))) aN))))
def m_own_block_in (xs : List D) : Option D := runF 1 1 b_own_block_in xs
-- sign_in: piece block sign
def b_sign_in : B := (sQ (sSet 1 (eCall m_own_block_in (aC (eV 0) aN)))
  (sQ (sFor (.s 2) (iOf (eTup (aC (eC (.int 1)) (aC (e1 oNeg (eC (.int 1))) aN)))) (sIf (e2 oEq (eCall m_middle_by (aC (eV 1) (aC (eV 2) aN))) (e2 oTk (eV 0) (eC (.int 2)))) (sRet (eV 2)) sP))
  (sRet (eC (.int 0)))))
def m_sign_in (xs : List D) : Option D := runF 1 3 b_sign_in xs
-- outward: number
def b_outward : B := (sRet (e2 oSub (e2 oMul (eC (.int 2)) (e2 oMod (eV 0) (eC (.int 2)))) (eC (.int 1))))
def m_outward (xs : List D) : Option D := runF 1 1 b_outward xs
-- goes_in: piece i j
def b_goes_in : B := (sQ (sUnp (.t [(.s 1), (.s 2)]) (eCall m_own_block_in (aC (eV 0) aN)))
  (sQ (sIf (e2 oEq (e2 oMod (e2 oIx (eV 0) (eC (.int 2))) (eC (.int 2))) (eC (.int 1))) (sRet (eTup (aC (e2 oAdd (eV 1) (eCall m_outward (aC (e2 oIx (eV 0) (eC (.int 0))) aN))) (aC (eV 2) aN)))) sP)
  (sRet (eTup (aC (eV 1) (aC (e2 oAdd (eV 2) (eCall m_outward (aC (e2 oIx (eV 0) (eC (.int 1))) aN))) aN))))))
def m_goes_in (xs : List D) : Option D := runF 1 3 b_goes_in xs
-- stem_by: cell is_level
def b_stem_by : B := (sQ (sIf (eV 1) (sRet (eIf (e2 oEq (e2 oMod (e2 oIx (eV 0) (eC (.int 1))) (eC (.int 2))) (eC (.int 0))) (eC (.int 1)) (eC (.int 3)))) sP)
  (sRet (eIf (e2 oEq (e2 oMod (e2 oIx (eV 0) (eC (.int 0))) (eC (.int 2))) (eC (.int 0))) (eC (.int 0)) (eC (.int 2)))))
def m_stem_by (xs : List D) : Option D := runF 2 2 b_stem_by xs
-- piece_out: block sign is_level middle
def b_piece_out : B := (sQ (sSet 3 (eCall m_middle_by (aC (eV 0) (aC (eV 1) aN))))
  (sRet (eTup (aC (e2 oIx (eV 3) (eC (.int 0))) (aC (e2 oIx (eV 3) (eC (.int 1))) (aC (eCall m_stem_by (aC (eV 3) (aC (eV 2) aN))) aN))))))
def m_piece_out (xs : List D) : Option D := runF 3 4 b_piece_out xs
-- four_in: floor block found sign own
def b_four_in : B := (sQ (sSet 2 (e2 oAdd (eLC (.s 3) [3] (iOf (eTup (aC (eC (.int 1)) (aC (e1 oNeg (eC (.int 1))) aN)))) none (eCall m_piece_out (aC (eV 1) (aC (eV 3) (aC (eC (.bl true)) aN))))) (eLC (.s 3) [3] (iOf (eTup (aC (eC (.int 1)) (aC (e1 oNeg (eC (.int 1))) aN)))) none (eCall m_piece_out (aC (eV 1) (aC (eV 3) (aC (eC (.bl false)) aN)))))))
  (sRet (e1 (oSorted (.l .i)) (eLC (.s 4) [4] (iOf (eV 2)) (some (eCall m_is_block_in (aC (eV 0) (aC (eCall m_goes_in (aC (eV 4) aN)) aN)))) (eV 4)))))
def m_four_in (xs : List D) : Option D := runF 2 5 b_four_in xs
-- tie_in: floor piece block goal dot other word
def b_tie_in : B := (sQ (sPar [2, 3] (pC (eCall m_own_block_in (aC (eV 1) aN)) (pC (eCall m_goes_in (aC (eV 1) aN)) pN)))
  (sQ (sPar [4, 5, 6] (pC (eTup (aC (e2 oDiv (e2 oIx (eV 2) (eC (.int 0))) (eC (.int 2))) (aC (e2 oDiv (e2 oIx (eV 2) (eC (.int 1))) (eC (.int 2))) aN))) (pC (eTup (aC (e2 oDiv (e2 oIx (eV 3) (eC (.int 0))) (eC (.int 2))) (aC (e2 oDiv (e2 oIx (eV 3) (eC (.int 1))) (eC (.int 2))) aN))) (pC (eC (.sym .tied)) pN))))
  (sQ (sIf (e2 oEq (eV 4) (eV 5)) (sQ (sSet 6 (eC (.sym .cut)))
  (sSet 5 (eIf (e2 oEq (e2 oMod (e2 oIx (eV 1) (eC (.int 2))) (eC (.int 2))) (eC (.int 1))) (eTup (aC (e2 oIx (eV 4) (eC (.int 0))) (aC (e2 oAdd (e2 oIx (eV 4) (eC (.int 1))) (eCall m_outward (aC (e2 oIx (eV 1) (eC (.int 1))) aN))) aN))) (eTup (aC (e2 oAdd (e2 oIx (eV 4) (eC (.int 0))) (eCall m_outward (aC (e2 oIx (eV 1) (eC (.int 0))) aN))) (aC (e2 oIx (eV 4) (eC (.int 1))) aN)))))) sP)
  (sQ (sIf (eOr (eNot (eCh oLeI oLtI (eC (.int 0)) (e2 oIx (eV 5) (eC (.int 0))) (e2 oIx (eV 0) (eC (.int 0))))) (eNot (eCh oLeI oLtI (eC (.int 0)) (e2 oIx (eV 5) (eC (.int 1))) (e2 oIx (eV 0) (eC (.int 1)))))) (sRet (eC .non)) sP)
  (sRet (eTup (aC (eTup (aC (e2 oMin2 (eV 4) (eV 5)) (aC (e2 oMax2 (eV 4) (eV 5)) aN))) (aC (eV 6) aN))))))))
def m_tie_in (xs : List D) : Option D := runF 2 7 b_tie_in xs
-- has_cell: floor cell
def b_has_cell : B := (sRet (eAnd (eCh oLeI oLtI (eC (.int 0)) (e2 oIx (eV 1) (eC (.int 0))) (e2 oMul (eC (.int 4)) (e2 oIx (eV 0) (eC (.int 0))))) (eCh oLeI oLtI (eC (.int 0)) (e2 oIx (eV 1) (eC (.int 1))) (e2 oMul (eC (.int 4)) (e2 oIx (eV 0) (eC (.int 1)))))))
def m_has_cell (xs : List D) : Option D := runF 2 2 b_has_cell xs
-- counted: pieces found piece cell
def b_counted : B := (sQ (sNewD 1)
  (sQ (sFor (.s 2) (iOf (eV 0)) (sFor (.s 3) (iOf (eCall m_cells_in (aC (eV 2) aN))) (sPut 1 (eV 3) (e2 oAdd (ePkGet 1 (eV 3) (eC (.int 0))) (eC (.int 1))))))
  (sRet (eV 1))))
def m_counted (xs : List D) : Option D := runF 1 4 b_counted xs
-- is_laying_in: floor thing known cell one
def b_is_laying_in : B := (sQ (sIf (eOr (eNot (e1 oIsTup (eV 1))) (e2 oNe (e1 oLen (eV 1)) (e2 oMul (e2 oMul (eC (.int 4)) (e2 oIx (eV 0) (eC (.int 0)))) (e2 oIx (eV 0) (eC (.int 1)))))) (sRet (eC (.bl false))) sP)
  (sQ (sIf (eOr (eNot (e1 oAll (eLC (.s 4) [4] (iOf (eV 1)) none (eCall m_is_piece (aC (eV 4) aN))))) (eNot (eCall m_ascends (aC (eV 1) aN)))) (sRet (eC (.bl false))) sP)
  (sQ (sSet 2 (eCall m_counted (aC (eV 1) aN)))
  (sRet (eAnd (e2 oEq (e1 oLen (eV 2)) (e2 oMul (eC (.int 4)) (e1 oLen (eV 1)))) (e1 oAll (eLC (.s 3) [3] (iOf (eV 2)) none (eCall m_has_cell (aC (eV 0) (aC (eV 3) aN))))))))))
def m_is_laying_in (xs : List D) : Option D := runF 2 5 b_is_laying_in xs
-- sure_laying: floor laying own
def b_sure_laying : B := (sQ (sSet 2 (eCall (m_tupled 6) (aC (eV 1) aN)))
  (sQ (sIf (eNot (eCall m_is_laying_in (aC (eV 0) (aC (eV 2) aN)))) sNo sP)
  (sRet (eV 2))))
def m_sure_laying (xs : List D) : Option D := runF 2 3 b_sure_laying xs
-- signs_in: told found piece
def b_signs_in : B := (sQ (sNewL 1 aN)
  (sQ (sFor (.s 2) (iOf (eV 0)) (sExt 1 (eLst (aC (eTup (aC (eCall m_own_block_in (aC (eV 2) aN)) (aC (eCall m_sign_in (aC (eV 2) aN)) aN))) (aC (eTup (aC (eCall m_goes_in (aC (eV 2) aN)) (aC (eCall m_sign_in (aC (eV 2) aN)) aN))) aN)))))
  (sRet (eV 1))))
def m_signs_in (xs : List D) : Option D := runF 1 3 b_signs_in xs
-- words_in: floor told found piece own
def b_words_in : B := (sQ (sSet 2 (eLC (.s 3) [3] (iOf (eV 1)) none (eCall m_tie_in (aC (eV 0) (aC (eV 3) aN)))))
  (sRet (eCall m_set_of (aC (eLC (.s 4) [4] (iOf (eV 2)) (some (e1 oNotN (eV 4))) (eV 4)) aN))))
def m_words_in (xs : List D) : Option D := runF 2 5 b_words_in xs
-- Rules.agrees: self block sign
def b_Rules_agrees : B := (sRet (e2 oEq (e3 oGet (e1 (oFld 0) (eV 0)) (eV 1) (eV 2)) (eV 2)))
def m_Rules_agrees (xs : List D) : Option D := runF 3 3 b_Rules_agrees xs
-- Rules.lets: self face height
def b_Rules_lets : B := (sRet (eAnd (e2 oLeI (e3 oGet (e1 (oFld 2) (eV 0)) (eV 1) (eV 2)) (eV 2)) (e2 oEq (e3 oGet (e1 (oFld 3) (eV 0)) (eV 1) (eV 2)) (eV 2))))
def m_Rules_lets (xs : List D) : Option D := runF 3 3 b_Rules_lets xs
-- crossed_face: face
def b_crossed_face : B := (sRet (eIf (e2 oEq (e1 oLen (eV 0)) (eC (.int 1))) (eV 0) (eTup (aC (e2 oIx (eV 0) (eC (.int 0))) (aC (e2 oIx (eV 0) (eC (.int 2))) (aC (e2 oIx (eV 0) (eC (.int 1))) aN))))))
def m_crossed_face (xs : List D) : Option D := runF 1 1 b_crossed_face xs
-- dot_steps: floor rules front i j dots inners outer last found height blocks is_flat block sign
def b_dot_steps : B := (sQ (sUnp (.t [(.s 5), (.s 6)]) (eV 2))
  (sQ (sPar [7, 8, 9] (pC (eTup (aC (eC (.int 0)) (aS (eV 6) (aC (eC (.int 0)) aN)))) (pC (e2 oSub (e2 oIx (eV 0) (eC (.int 1))) (eC (.int 1))) (pL pN))))
  (sQ (sFor (.s 10) (iOf (eTup (aC (e2 oSub (e2 oIx (eV 7) (eV 4)) (eC (.int 1))) (aC (e2 oAdd (e2 oIx (eV 7) (eV 4)) (eC (.int 1))) aN)))) (sQ (sIf (eOr (e2 oNe (e1 oAbs (e2 oSub (eV 10) (e2 oIx (eV 7) (e2 oAdd (eV 4) (eC (.int 1)))))) (eC (.int 1))) (eNot (eCall m_Rules_lets (aC (eV 1) (aC (eTup (aC (eC (.sym .dot)) (aC (eV 3) (aC (eV 4) aN)))) (aC (eV 10) aN)))))) sCt sP)
  (sQ (sNewL 11 (aC (eTup (aC (eTup (aC (e2 oMul (eC (.int 2)) (eV 3)) (aC (e2 oMul (eC (.int 2)) (eV 4)) aN))) (aC (e2 oSub (eV 10) (e2 oIx (eV 7) (eV 4))) aN))) (aC (eTup (aC (eTup (aC (e2 oMul (eC (.int 2)) (eV 3)) (aC (e2 oAdd (e2 oMul (eC (.int 2)) (eV 4)) (eC (.int 1))) aN))) (aC (e2 oSub (eV 10) (e2 oIx (eV 7) (e2 oAdd (eV 4) (eC (.int 1))))) aN))) aN)))
  (sQ (sIf (e2 oEq (eV 4) (eC (.int 0))) (sApp 11 (eTup (aC (eTup (aC (e2 oAdd (e2 oMul (eC (.int 2)) (eV 3)) (eC (.int 1))) (aC (eC (.int 0)) aN))) (aC (eV 10) aN)))) sP)
  (sQ (sIf (e2 oEq (eV 4) (eV 8)) (sApp 11 (eTup (aC (eTup (aC (e2 oAdd (e2 oMul (eC (.int 2)) (eV 3)) (eC (.int 1))) (aC (e2 oAdd (e2 oMul (eC (.int 2)) (eV 8)) (eC (.int 1))) aN))) (aC (eV 10) aN)))) sP)
  (sIf (e1 oAll (eLC (.t [(.s 13), (.s 14)]) [13, 14] (iOf (eV 11)) none (eCall m_Rules_agrees (aC (eV 1) (aC (eV 13) (aC (eV 14) aN)))))) (sQ (sSet 12 (eAnd (e2 oEq (e2 oIx (eV 5) (eV 4)) (eV 10)) (e2 oEq (e2 oIx (eV 7) (eV 4)) (e2 oIx (eV 7) (e2 oAdd (eV 4) (eC (.int 1)))))))
  (sApp 9 (eTup (aC (eTup (aC (e2 oAdd (e2 oAdd (e2 oTk (eV 5) (eV 4)) (eTup (aC (eV 10) aN))) (e2 oDr (eV 5) (e2 oAdd (eV 4) (eC (.int 1))))) (aC (eV 6) aN))) (aC (eV 12) (aC (eTup (aC (eTup (aC (e2 oSub (eV 3) (eC (.int 1))) (aC (eV 4) aN))) (aC (eTup (aC (eV 3) (aC (eV 4) aN))) aN))) aN)))))) sP))))))
  (sRet (eV 9)))))
def m_dot_steps (xs : List D) : Option D := runF 5 15 b_dot_steps xs
-- inner_steps: floor rules front i j dots inners south north found height is_flat
def b_inner_steps : B := (sQ (sUnp (.t [(.s 5), (.s 6)]) (eV 2))
  (sQ (sPar [7, 8, 9] (pC (e2 oIx (eV 5) (eV 4)) (pC (e2 oIx (eV 5) (e2 oAdd (eV 4) (eC (.int 1)))) (pL pN))))
  (sQ (sFor (.s 10) (iOf (eIf (e2 oEq (eV 3) (e2 oSub (e2 oIx (eV 0) (eC (.int 0))) (eC (.int 1)))) (eTup (aC (eC (.int 0)) aN)) (eTup (aC (e2 oSub (eV 7) (eC (.int 1))) (aC (e2 oAdd (eV 7) (eC (.int 1))) aN))))) (sQ (sIf (eOr (e2 oNe (e1 oAbs (e2 oSub (eV 10) (eV 7))) (eC (.int 1))) (e2 oNe (e1 oAbs (e2 oSub (eV 10) (eV 8))) (eC (.int 1)))) sCt sP)
  (sQ (sIf (eAnd (e2 oLt (eV 3) (e2 oSub (e2 oIx (eV 0) (eC (.int 0))) (eC (.int 1)))) (eNot (eCall m_Rules_lets (aC (eV 1) (aC (eTup (aC (eC (.sym .inner)) (aC (eV 3) (aC (eV 4) aN)))) (aC (eV 10) aN)))))) sCt sP)
  (sQ (sIf (eNot (eCall m_Rules_agrees (aC (eV 1) (aC (eTup (aC (e2 oAdd (e2 oMul (eC (.int 2)) (eV 3)) (eC (.int 1))) (aC (e2 oAdd (e2 oMul (eC (.int 2)) (eV 4)) (eC (.int 1))) aN))) (aC (e2 oSub (eV 7) (eV 10)) aN))))) sCt sP)
  (sIf (eCall m_Rules_agrees (aC (eV 1) (aC (eTup (aC (e2 oAdd (e2 oMul (eC (.int 2)) (eV 3)) (eC (.int 1))) (aC (e2 oAdd (e2 oMul (eC (.int 2)) (eV 4)) (eC (.int 2))) aN))) (aC (e2 oSub (eV 8) (eV 10)) aN)))) (sQ (sSet 11 (eAnd (e2 oEq (eV 7) (eV 8)) (e2 oEq (e2 oIx (eV 6) (eV 4)) (eV 10))))
  (sApp 9 (eTup (aC (eTup (aC (eV 5) (aC (e2 oAdd (e2 oAdd (e2 oTk (eV 6) (eV 4)) (eTup (aC (eV 10) aN))) (e2 oDr (eV 6) (e2 oAdd (eV 4) (eC (.int 1))))) aN))) (aC (eV 11) (aC (eTup (aC (eTup (aC (eV 3) (aC (eV 4) aN))) (aC (eTup (aC (eV 3) (aC (e2 oAdd (eV 4) (eC (.int 1))) aN))) aN))) aN)))))) sP)))))
  (sRet (eV 9)))))
def m_inner_steps (xs : List D) : Option D := runF 5 12 b_inner_steps xs
def tbSt (k : Nat) (xs : List D) : Option D := match k with
  | 0 => m_dot_steps xs
  | 1 => m_inner_steps xs
  | _ => none
-- gone_on: floor rules now step i j weight found front number later is_flat tie more
def b_gone_on : B := (sQ (sNewD 7)
  (sQ (sFor (.t [(.s 8), (.s 9)]) (iItems (eV 2)) (sFor (.t [(.s 10), (.s 11), (.s 12)]) (iOf (eCallV tbSt 3 (aC (eV 0) (aC (eV 1) (aC (eV 8) (aC (eV 4) (aC (eV 5) aN))))))) (sQ (sSet 13 (eIf (eAnd (eV 11) (e2 oNotIn (eV 12) (e1 (oFld 1) (eV 1)))) (e2 oMul (eV 9) (eV 6)) (eV 9)))
  (sPut 7 (eV 10) (e2 oAdd (ePkGet 7 (eV 10) (eC (.int 0))) (eV 13))))))
  (sRet (eV 7))))
def m_gone_on (xs : List D) : Option D := runF 7 14 b_gone_on xs
-- rules_in: floor told signs words block sign known tie _
def b_rules_in : B := (sQ (sPar [2, 3] (pD (pC (eCall m_words_in (aC (eV 0) (aC (eV 1) aN))) pN)))
  (sQ (sFor (.t [(.s 4), (.s 5)]) (iOf (eCall m_signs_in (aC (eV 1) aN))) (sIf (e2 oNe (ePkSd 2 (eV 4) (eV 5)) (eV 5)) (sRet (eC .non)) sP))
  (sQ (sSet 6 (eCall m_set_of (aC (eLC (.t [(.s 7), (.s 8)]) [7, 8] (iOf (eV 3)) none (eV 7)) aN)))
  (sRet (eIf (e2 oEq (e1 oLen (eV 6)) (e1 oLen (eV 3))) (e2 oRules (eV 2) (eV 6)) (eC .non))))))
def m_rules_in (xs : List D) : Option D := runF 2 9 b_rules_in xs
-- sure_short: floor
def b_sure_short : B := (sQ (sIf (e2 oGtI (e1 oMinT (eV 0)) (eC (.int 7))) sNo sP)
  (sRet (eV 0)))
def m_sure_short (xs : List D) : Option D := runF 1 1 b_sure_short xs
-- row_in: laying _ piece
def b_row_in : B := (sRet (e1 oTuple (eLC (.t [(.s 1), (.s 2)]) [1, 2] (iOf (e1 (oSorted (.l (.l .i))) (eLC (.s 2) [2] (iOf (eV 0)) none (eTup (aC (eCall m_own_block_in (aC (eV 2) aN)) (aC (eV 2) aN)))))) none (eV 2))))
def m_row_in (xs : List D) : Option D := runF 1 3 b_row_in xs
-- laying_by_row: row
def b_laying_by_row : B := (sRet (e1 oTuple (e1 (oSorted (.l .i)) (eV 0))))
def m_laying_by_row (xs : List D) : Option D := runF 1 1 b_laying_by_row xs
-- _law_lists: _law_matter _law_bit
def b_w_lists (me : List D → Option D) : B := (sRet (eIf (e1 oIsLT (eV 0)) (eLC (.s 1) [1] (iOf (eV 0)) none (eCall me (aC (eV 1) aN))) (eV 0)))
def m_w_lists : Nat → List D → Option D
  | 0, _ => none
  | n + 1, xs => runF 1 2 (b_w_lists (m_w_lists n)) xs
-- _law_same: _law_got _law_due _law_mine _law_its
def b_w_same (me : List D → Option D) : B := (sQ (sIf (e1 oIsLT (eV 1)) (sQ (sIf (eOr (e2 oNe (e1 oIsList (eV 0)) (e1 oIsList (eV 1))) (e2 oNe (e1 oIsTup (eV 0)) (e1 oIsTup (eV 1)))) (sRet (eC (.bl false))) sP)
  (sRet (eAnd (e2 oEq (e1 oLen (eV 0)) (e1 oLen (eV 1))) (e1 oAll (eLC (.t [(.s 2), (.s 3)]) [2, 3] (iZip (eV 0) (eV 1)) none (eCall me (aC (eV 2) (aC (eV 3) aN)))))))) sP)
  (sQ (sIf (eOr (e1 oIsN (eV 1)) (e1 oIsBS (eV 1))) (sRet (eAnd (e2 oEq (eV 0) (eV 1)) (eAnd (e2 oEq (e1 oIsBool (eV 0)) (e1 oIsBool (eV 1))) (e2 oEq (e1 oIsN (eV 0)) (e1 oIsN (eV 1)))))) sP)
  (sRet (eAnd (e1 oIsInt (eV 0)) (eAnd (eNot (e1 oIsBool (eV 0))) (e2 oEq (eV 0) (eV 1)))))))
def m_w_same : Nat → List D → Option D
  | 0, _ => none
  | n + 1, xs => runF 2 4 (b_w_same (m_w_same n)) xs
-- _law_off: _law_way_so
def b_w_off : B := (sRet (e2 oIx (eLst (aC (eTup (aC (eC (.int 1)) (aC (eC (.int 0)) aN))) (aC (eTup (aC (eC (.int 0)) (aC (eC (.int 1)) aN))) (aC (eTup (aC (e1 oNeg (eC (.int 1))) (aC (eC (.int 0)) aN))) (aC (eTup (aC (eC (.int 0)) (aC (e1 oNeg (eC (.int 1))) aN))) aN))))) (e2 oMod (e1 oInt (eV 0)) (eC (.int 4)))))
def m_w_off (xs : List D) : Option D := runF 1 1 b_w_off xs
-- _law_plots: _law_deck _law_found _law_i _law_j
def b_w_plots : B := (sQ (sSet 1 (eLst aN))
  (sQ (sFor (.s 2) (iRange (e2 oMul (eC (.int 2)) (e2 oIx (eV 0) (eC (.int 0))))) (sSet 1 (e2 oAdd (eV 1) (eLC (.s 3) [3] (iRange (e2 oMul (eC (.int 2)) (e2 oIx (eV 0) (eC (.int 1))))) none (eTup (aC (eV 2) (aC (eV 3) aN)))))))
  (sRet (eV 1))))
def m_w_plots (xs : List D) : Option D := runF 1 4 b_w_plots xs
-- _law_dot: _law_plot
def b_w_dot : B := (sRet (eTup (aC (eC (.sym .dot)) (aC (e2 oDiv (e2 oIx (eV 0) (eC (.int 0))) (eC (.int 2))) (aC (e2 oDiv (e2 oIx (eV 0) (eC (.int 1))) (eC (.int 2))) aN)))))
def m_w_dot (xs : List D) : Option D := runF 1 1 b_w_dot xs
-- _law_dots: _law_deck _law_found _law_i _law_j
def b_w_dots : B := (sQ (sSet 1 (eLst aN))
  (sQ (sFor (.s 2) (iRange (e2 oIx (eV 0) (eC (.int 0)))) (sSet 1 (e2 oAdd (eV 1) (eLC (.s 3) [3] (iRange (e2 oIx (eV 0) (eC (.int 1)))) none (eTup (aC (eV 2) (aC (eV 3) aN)))))))
  (sRet (eV 1))))
def m_w_dots (xs : List D) : Option D := runF 1 4 b_w_dots xs
-- _law_bonds: _law_deck _law_found _law_i _law_j
def b_w_bonds : B := (sQ (sNewL 1 aN)
  (sQ (sFor (.t [(.s 2), (.s 3)]) (iOf (eCall m_w_dots (aC (eV 0) aN))) (sQ (sIf (e2 oLt (e2 oAdd (eV 2) (eC (.int 1))) (e2 oIx (eV 0) (eC (.int 0)))) (sApp 1 (eTup (aC (eTup (aC (eV 2) (aC (eV 3) aN))) (aC (eTup (aC (e2 oAdd (eV 2) (eC (.int 1))) (aC (eV 3) aN))) aN)))) sP)
  (sIf (e2 oLt (e2 oAdd (eV 3) (eC (.int 1))) (e2 oIx (eV 0) (eC (.int 1)))) (sApp 1 (eTup (aC (eTup (aC (eV 2) (aC (eV 3) aN))) (aC (eTup (aC (eV 2) (aC (e2 oAdd (eV 3) (eC (.int 1))) aN))) aN)))) sP)))
  (sRet (e1 (oSorted (.l (.l .i))) (eV 1)))))
def m_w_bonds (xs : List D) : Option D := runF 1 4 b_w_bonds xs
-- _law_bond_at: _law_deck _law_dot_so _law_way_so _law_x _law_y _law_far
def b_w_bond_at : B := (sQ (sUnp (.t [(.s 3), (.s 4)]) (eCall m_w_off (aC (eV 2) aN)))
  (sQ (sSet 5 (eTup (aC (e2 oAdd (e2 oIx (eV 1) (eC (.int 0))) (eV 3)) (aC (e2 oAdd (e2 oIx (eV 1) (eC (.int 1))) (eV 4)) aN))))
  (sQ (sIf (eOr (eNot (eCh oLeI oLtI (eC (.int 0)) (e2 oIx (eV 5) (eC (.int 0))) (e2 oIx (eV 0) (eC (.int 0))))) (eNot (eCh oLeI oLtI (eC (.int 0)) (e2 oIx (eV 5) (eC (.int 1))) (e2 oIx (eV 0) (eC (.int 1)))))) (sRet (eC .non)) sP)
  (sRet (eTup (aC (e2 oMin2 (eV 1) (eV 5)) (aC (e2 oMax2 (eV 1) (eV 5)) aN)))))))
def m_w_bond_at (xs : List D) : Option D := runF 3 6 b_w_bond_at xs
-- _law_pair_at: _law_dot_so _law_way_so _law_x _law_y _law_i _law_j
def b_w_pair_at : B := (sQ (sUnp (.t [(.s 2), (.s 3)]) (eCall m_w_off (aC (eV 1) aN)))
  (sQ (sPar [4, 5] (pC (e2 oMul (eC (.int 2)) (e2 oIx (eV 0) (eC (.int 0)))) (pC (e2 oMul (eC (.int 2)) (e2 oIx (eV 0) (eC (.int 1)))) pN)))
  (sQ (sIf (e2 oEq (eV 3) (eC (.int 0))) (sRet (eTup (aC (eTup (aC (e2 oAdd (eV 4) (e1 oInt (e2 oEq (eV 2) (eC (.int 1))))) (aC (eV 5) aN))) (aC (eTup (aC (e2 oAdd (eV 4) (e1 oInt (e2 oEq (eV 2) (eC (.int 1))))) (aC (e2 oAdd (eV 5) (eC (.int 1))) aN))) aN)))) sP)
  (sRet (eTup (aC (eTup (aC (eV 4) (aC (e2 oAdd (eV 5) (e1 oInt (e2 oEq (eV 3) (eC (.int 1))))) aN))) (aC (eTup (aC (e2 oAdd (eV 4) (eC (.int 1))) (aC (e2 oAdd (eV 5) (e1 oInt (e2 oEq (eV 3) (eC (.int 1))))) aN))) aN)))))))
def m_w_pair_at (xs : List D) : Option D := runF 2 6 b_w_pair_at xs
-- _law_site: _law_bond _law_way_so
def b_w_site : B := (sQ (sSet 1 (eIf (e2 oEq (e2 oIx (e2 oIx (eV 0) (eC (.int 0))) (eC (.int 1))) (e2 oIx (e2 oIx (eV 0) (eC (.int 1))) (eC (.int 1)))) (eC (.int 0)) (eC (.int 1))))
  (sRet (e2 oAdd (eCall m_w_pair_at (aC (e2 oIx (eV 0) (eC (.int 0))) (aC (eV 1) aN))) (eCall m_w_pair_at (aC (e2 oIx (eV 0) (eC (.int 1))) (aC (e2 oAdd (eV 1) (eC (.int 2))) aN))))))
def m_w_site (xs : List D) : Option D := runF 1 2 b_w_site xs
-- _law_middle: _law_plot _law_sign_so _law_e_so _law_f_so _law_east_so _law_north_so _law_across_so _law_along_so _law_spot _law_far_so _law_near_so _law_own
def b_w_middle : B := (sQ (sSet 2 (e2 oSub (e2 oMul (eC (.int 2)) (e2 oMod (e1 oInt (e2 oIx (eV 0) (eC (.int 0)))) (eC (.int 2)))) (eC (.int 1))))
  (sQ (sSet 3 (e2 oSub (e2 oMul (eC (.int 2)) (e2 oMod (e1 oInt (e2 oIx (eV 0) (eC (.int 1)))) (eC (.int 2)))) (eC (.int 1))))
  (sQ (sPar [4, 5] (pC (e1 oInt (e2 oEq (e2 oMul (e1 oNeg (eV 3)) (eV 1)) (eC (.int 1)))) (pC (e1 oInt (e2 oEq (e2 oMul (eV 2) (eV 1)) (eC (.int 1)))) pN)))
  (sQ (sSet 6 (e2 oSub (eC (.int 2)) (e2 oMul (eC (.int 2)) (eV 4))))
  (sQ (sSet 7 (e2 oSub (eC (.int 3)) (e2 oMul (eC (.int 2)) (eV 5))))
  (sQ (sSet 8 (eTup (aC (e2 oAdd (e2 oMul (eC (.int 2)) (e2 oIx (eV 0) (eC (.int 0)))) (eV 4)) (aC (e2 oAdd (e2 oMul (eC (.int 2)) (e2 oIx (eV 0) (eC (.int 1)))) (eV 5)) aN))))
  (sQ (sSet 9 (eLC (.s 11) [11] (iOf (eTup (aC (eV 6) (aC (eV 7) aN)))) (some (e2 oIn (eV 11) (eTup (aC (e2 oSub (eC (.int 1)) (eV 2)) (aC (e2 oSub (eC (.int 2)) (eV 3)) aN))))) (eV 11)))
  (sQ (sSet 10 (eLC (.s 11) [11] (iOf (eTup (aC (eV 6) (aC (eV 7) aN)))) (some (e2 oNotIn (eV 11) (eV 9))) (eV 11)))
  (sRet (eTup (aC (eV 8) (aC (e2 oIx (eV 10) (eC (.int 0))) (aC (e2 oIx (eV 9) (eC (.int 0))) aN)))))))))))))
def m_w_middle (xs : List D) : Option D := runF 2 12 b_w_middle xs
-- _law_slab: _law_plot _law_sign_so _law_out_so _law_spot _law_near_so _law_far_so _law_way_so
def b_w_slab : B := (sQ (sUnp (.t [(.s 3), (.s 4), (.s 5)]) (eCall m_w_middle (aC (eV 0) (aC (eV 1) aN))))
  (sQ (sSet 6 (eIf (e2 oEq (eV 2) (eC (.int 1))) (eV 4) (eV 5)))
  (sRet (e2 oAdd (eV 3) (eTup (aC (e2 oMod (e1 oInt (e2 oAdd (eV 6) (eC (.int 2)))) (eC (.int 4))) aN))))))
def m_w_slab (xs : List D) : Option D := runF 3 7 b_w_slab xs
-- _law_joins: _law_deck _law_heap _law_found _law_dot_so _law_way_so _law_bond _law_pair_so _law_site_so
def b_w_joins : B := (sQ (sNewL 2 aN)
  (sQ (sFor (.s 3) (iOf (eCall m_w_dots (aC (eV 0) aN))) (sFor (.s 4) (iRange (eC (.int 4))) (sQ (sPar [5, 6] (pC (eCall m_w_bond_at (aC (eV 0) (aC (eV 3) (aC (eV 4) aN)))) (pC (eCall m_w_pair_at (aC (eV 3) (aC (eV 4) aN))) pN)))
  (sIf (eOr (e1 oIsN (eV 5)) (e2 oNotIn (eV 5) (eV 1))) (sApp 2 (eV 6)) (sIf (e2 oEq (e2 oIx (eV 5) (eC (.int 0))) (eV 3)) (sQ (sSet 7 (eCall m_w_site (aC (eV 5) aN)))
  (sAddL 2 (eV 2) (eLst (aC (eTup (aC (e2 oIx (eV 7) (eC (.int 0))) (aC (e2 oIx (eV 7) (eC (.int 2))) aN))) (aC (eTup (aC (e2 oIx (eV 7) (eC (.int 1))) (aC (e2 oIx (eV 7) (eC (.int 3))) aN))) aN))))) sP)))))
  (sRet (eV 2))))
def m_w_joins (xs : List D) : Option D := runF 2 8 b_w_joins xs
-- _law_rounds: _law_deck _law_heap _law_joins_so _law_left_so _law_found _law_one _law_two _law_row_so _law_place_so _law_own _law_its
def b_w_rounds : B := (sQ (sPar [2, 3, 4] (pD (pC (eCall m_w_plots (aC (eV 0) aN)) (pL pN))))
  (sQ (sFor (.t [(.s 5), (.s 6)]) (iOf (eCall m_w_joins (aC (eV 0) (aC (eV 1) aN)))) (sQ (sPut 2 (eV 5) (eIf (ePkIn (eV 5) 2) (e2 oAdd (ePkIx 2 (eV 5)) (eLst (aC (eV 6) aN))) (eLst (aC (eV 6) aN))))
  (sPut 2 (eV 6) (eIf (ePkIn (eV 6) 2) (e2 oAdd (ePkIx 2 (eV 6)) (eLst (aC (eV 5) aN))) (eLst (aC (eV 5) aN))))))
  (sQ (sWh 200 (e1 oNeNil (eV 3)) (sQ (sPar [7, 8] (pC (eLst (aC (e2 oIx (eV 3) (eC (.int 0))) aN)) (pC (eC (.int 0)) pN)))
  (sQ (sWh 200 (e2 oLt (eV 8) (e1 oLen (eV 7))) (sQ (sSet 9 (e2 oIx (eV 7) (eV 8)))
  (sQ (sSet 8 (e2 oAdd (eV 8) (eC (.int 1))))
  (sSet 7 (e2 oAdd (eV 7) (eLC (.s 10) [10] (iOf (ePkIx 2 (eV 9))) (some (e2 oNotIn (eV 10) (eV 7))) (eV 10)))))))
  (sQ (sApp 4 (e1 oTuple (e1 (oSorted (.l .i)) (eV 7))))
  (sSet 3 (eLC (.s 9) [9] (iOf (eV 3)) (some (e2 oNotIn (eV 9) (eV 7))) (eV 9)))))))
  (sRet (e1 (oSorted (.l (.l .i))) (eV 4))))))
def m_w_rounds (xs : List D) : Option D := runF 2 11 b_w_rounds xs
-- _law_lots: _law_deck _law_found _law_bond _law_own
def b_w_lots : B := (sQ (sSet 1 (eLst (aC (eTup aN) aN)))
  (sQ (sFor (.s 2) (iOf (eCall m_w_bonds (aC (eV 0) aN))) (sSet 1 (e2 oAdd (eV 1) (eLC (.s 3) [3] (iOf (eV 1)) none (e2 oAdd (eV 3) (eTup (aC (eV 2) aN)))))))
  (sRet (eV 1))))
def m_w_lots (xs : List D) : Option D := runF 1 4 b_w_lots xs
-- _law_kinds_of: _law_deck _law_found _law_plot _law_sign_so _law_far_so _law_bond
def b_w_kinds_of : B := (sQ (sNewD 1)
  (sQ (sFor (.s 2) (iOf (eCall m_w_plots (aC (eV 0) aN))) (sFor (.s 3) (iOf (eTup (aC (eC (.int 1)) (aC (e1 oNeg (eC (.int 1))) aN)))) (sQ (sSet 4 (e2 oIx (eCall m_w_middle (aC (eV 2) (aC (eV 3) aN))) (eC (.int 2))))
  (sQ (sSet 5 (eCall m_w_bond_at (aC (eV 0) (aC (e2 oDr (eCall m_w_dot (aC (eV 2) aN)) (eC (.int 1))) (aC (eV 4) aN)))))
  (sPut 1 (eTup (aC (eV 2) (aC (eV 3) aN))) (eTup (aC (eV 5) (aC (eCall m_w_slab (aC (eV 2) (aC (eV 3) (aC (eC (.int 0)) aN)))) (aC (eCall m_w_slab (aC (eV 2) (aC (eV 3) (aC (eC (.int 1)) aN)))) aN)))))))))
  (sRet (eV 1))))
def m_w_kinds_of (xs : List D) : Option D := runF 1 6 b_w_kinds_of xs
-- _law_laid: _law_kinds_so _law_heap _law_signs_so _law_found _law_plot _law_own
def b_w_laid : B := (sQ (sNewL 3 aN)
  (sQ (sFor (.s 4) (iOf (eV 2)) (sQ (sSet 5 (e2 oIx (eV 0) (eTup (aC (eV 4) (aC (e2 oIx (eV 2) (eV 4)) aN)))))
  (sApp 3 (eIf (e2 oIn (e2 oIx (eV 5) (eC (.int 0))) (eV 1)) (e2 oIx (eV 5) (eC (.int 2))) (e2 oIx (eV 5) (eC (.int 1)))))))
  (sRet (e1 oTuple (e1 (oSorted (.l .i)) (eV 3))))))
def m_w_laid (xs : List D) : Option D := runF 3 6 b_w_laid xs
-- _law_all_bits: _law_many_so _law_found _law_lap _law_own
def b_w_all_bits : B := (sQ (sSet 1 (eLst (aC (eTup aN) aN)))
  (sQ (sFor (.s 2) (iRange (eV 0)) (sSet 1 (e2 oAdd (eLC (.s 3) [3] (iOf (eV 1)) none (e2 oAdd (eV 3) (eTup (aC (eC (.int 1)) aN)))) (eLC (.s 3) [3] (iOf (eV 1)) none (e2 oAdd (eV 3) (eTup (aC (e1 oNeg (eC (.int 1))) aN)))))))
  (sRet (eV 1))))
def m_w_all_bits (xs : List D) : Option D := runF 1 4 b_w_all_bits xs
-- _law_signs_by: _law_rounds_so _law_goings_so _law_found _law_row_so _law_sign_so _law_plot
def b_w_signs_by : B := (sQ (sNewD 2)
  (sQ (sFor (.t [(.s 3), (.s 4)]) (iZip (eV 0) (eV 1)) (sFor (.s 5) (iOf (eV 3)) (sPut 2 (eV 5) (eV 4))))
  (sRet (eV 2))))
def m_w_signs_by (xs : List D) : Option D := runF 2 6 b_w_signs_by xs
-- _law_all_spreads: _law_deck _law_kinds_so _law_found _law_heap _law_rounds_so _law_goings_so
def b_w_all_spreads : B := (sQ (sPar [1, 2] (pC (eCall m_w_kinds_of (aC (eV 0) aN)) (pL pN)))
  (sQ (sFor (.s 3) (iOf (eCall m_w_lots (aC (eV 0) aN))) (sQ (sSet 4 (eCall m_w_rounds (aC (eV 0) (aC (eV 3) aN))))
  (sFor (.s 5) (iOf (eCall m_w_all_bits (aC (e1 oLen (eV 4)) aN))) (sApp 2 (eCall m_w_laid (aC (eV 1) (aC (eV 3) (aC (eCall m_w_signs_by (aC (eV 4) (aC (eV 5) aN))) aN))))))))
  (sRet (e1 (oSorted (.l (.l .i))) (eV 2)))))
def m_w_all_spreads (xs : List D) : Option D := runF 1 6 b_w_all_spreads xs
-- _law_row: _law_spread _law_plot _law_own _law_its
def b_w_row : B := (sRet (e1 oTuple (eLC (.t [(.s 1), (.s 2)]) [1, 2] (iOf (e1 (oSorted (.l (.l .i))) (eLC (.s 3) [3] (iOf (eV 0)) none (eTup (aC (eTup (aC (e2 oDiv (e2 oIx (eV 3) (eC (.int 0))) (eC (.int 2))) (aC (e2 oDiv (e2 oIx (eV 3) (eC (.int 1))) (eC (.int 2))) aN))) (aC (eV 3) aN)))))) none (eV 2))))
def m_w_row (xs : List D) : Option D := runF 1 4 b_w_row xs
-- _law_rows: _law_deck _law_own
def b_w_rows : B := (sRet (e1 (oSorted (.l (.l .i))) (eLC (.s 1) [1] (iOf (eCall m_w_all_spreads (aC (eV 0) aN))) none (eCall m_w_row (aC (eV 1) aN)))))
def m_w_rows (xs : List D) : Option D := runF 1 2 b_w_rows xs
-- _law_right: _law_tin _law_deck _law_all_so _law_soft_so _law_door_so _law_none_so _law_k _law_due _law_own
def b_w_right : B := (sQ (sSet 1 (eOf 0 (aC (eTup (aC (eC (.int 1)) (aC (eC (.int 2)) aN))) (aC (eTup (aC (eC (.int 2)) (aC (eC (.int 1)) aN))) (aC (eTup (aC (eC (.int 1)) (aC (eC (.int 3)) aN))) (aC (eTup (aC (eC (.int 3)) (aC (eC (.int 1)) aN))) aN))))))
  (sQ (sSet 2 (eLC (.s 8) [8] (iOf (eCall t_w_rows (aC (eV 1) aN))) none (e1 oTuple (e1 (oSorted (.l .i)) (eV 8)))))
  (sQ (sPar [3, 4, 5] (pC (eIf (e2 oEq (eTake 0 (eC (.int 2))) (eC (.int 0))) (e1 oList (eV 1)) (eV 1)) (pC (eTake 0 (eC (.int 4))) (pC (eLst (aC (eC (.sym .cannot)) (aC (eC (.bl true)) aN))) pN))))
  (sQ (sSet 6 (eOf 0 (aC (eC (.int 0)) (aC (e2 oSub (e1 oLen (eV 2)) (eC (.int 1))) (aC (eTake 0 (e1 oLen (eV 2))) (aC (eTake 0 (e1 oLen (eV 2))) aN))))))
  (sQ (sSet 7 (e2 oIx (eLst (aC (e2 oIx (eV 2) (eC (.int 0))) (aC (e2 oIx (eV 2) (e1 oNeg (eC (.int 1)))) (aC (eV 5) (aC (eV 5) aN))))) (eV 4)))
  (sQ (sIf (eAnd (e2 oEq (eV 4) (eC (.int 2))) (e2 oLt (e2 oAdd (eV 6) (eC (.int 1))) (e1 oLen (eV 2)))) (sSet 7 (e2 oIx (eV 2) (e2 oAdd (eV 6) (eC (.int 1))))) sP)
  (sQ (sIf (eAnd (e2 oEq (eV 4) (eC (.int 3))) (e2 oGtI (eV 6) (eC (.int 0)))) (sSet 7 (e2 oIx (eV 2) (e2 oSub (eV 6) (eC (.int 1))))) sP)
  (sRet (eCall (m_w_same 6) (aC (eLst (aC (eCall t_heard (aC (eV 4) (aC (eV 3) (aC (eCall (m_w_lists 6) (aC (e2 oIx (eV 2) (eV 6)) aN)) aN)))) aN)) (aC (eLst (aC (eV 7) aN)) aN)))))))))))
def m_w_right (xs : List D) : Option D := runF 1 9 b_w_right xs
-- Rules.crossed: self found face height i j sign tie
def b_Rules_crossed : B := (sQ (sNewI 1 (eDC (.t [(.t [(.s 4), (.s 5)]), (.s 6)]) [4, 5, 6] (iItems (e1 (oFld 0) (eV 0))) (eTup (aC (eV 5) (aC (eV 4) aN))) (eV 6)) (eLC (.s 7) [7] (iOf (e1 (oFld 1) (eV 0))) none (e1 oTuple (eLC (.t [(.s 4), (.s 5)]) [4, 5] (iOf (eV 7)) none (eTup (aC (eV 5) (aC (eV 4) aN)))))))
  (sQ (sFld 1 2 (eDC (.t [(.s 2), (.s 3)]) [2, 3] (iItems (e1 (oFld 2) (eV 0))) (eCall m_crossed_face (aC (eV 2) aN)) (eV 3)))
  (sQ (sFld 1 3 (eDC (.t [(.s 2), (.s 3)]) [2, 3] (iItems (e1 (oFld 3) (eV 0))) (eCall m_crossed_face (aC (eV 2) aN)) (eV 3)))
  (sRet (eV 1)))))
def m_Rules_crossed (xs : List D) : Option D := runF 1 8 b_Rules_crossed xs
-- sum_by: floor rules weight many high now i j
def b_sum_by (me : List D → Option D) : B := (sQ (sIf (e1 oIsN (eV 1)) (sRet (eC (.int 0))) sP)
  (sQ (sIf (e2 oLt (e2 oIx (eV 0) (eC (.int 0))) (e2 oIx (eV 0) (eC (.int 1)))) (sRet (eCall me (aC (eTup (aC (e2 oIx (eV 0) (eC (.int 1))) (aC (e2 oIx (eV 0) (eC (.int 0))) aN))) (aC (eCall m_Rules_crossed (aC (eV 1) aN)) (aC (eV 2) aN))))) sP)
  (sQ (sUnp (.t [(.s 3), (.s 4)]) (eV 0))
  (sQ (sSet 5 (e2 oD1 (eTup (aC (e2 oMul (eTup (aC (eC (.int 0)) aN)) (eV 4)) (aC (e2 oMul (eTup (aC (eC (.int 0)) aN)) (e2 oSub (eV 4) (eC (.int 1)))) aN))) (eC (.int 1))))
  (sQ (sFor (.s 6) (iRange (eV 3)) (sQ (sFor (.s 7) (iRange (eV 4)) (sSet 5 (eCall m_gone_on (aC (eV 0) (aC (eV 1) (aC (eV 5) (aC (eC (.fn 0)) (aC (eV 6) (aC (eV 7) (aC (eV 2) aN))))))))))
  (sFor (.s 7) (iRange (e2 oSub (eV 4) (eC (.int 1)))) (sSet 5 (eCall m_gone_on (aC (eV 0) (aC (eV 1) (aC (eV 5) (aC (eC (.fn 1)) (aC (eV 6) (aC (eV 7) (aC (eV 2) aN))))))))))))
  (sRet (e1 oSumVals (eV 5))))))))
def m_sum_by : Nat → List D → Option D
  | 0, _ => none
  | n + 1, xs => runF 3 8 (b_sum_by (m_sum_by n)) xs
-- many_in: floor told
def b_many_in : B := (sRet (eCall (m_sum_by 6) (aC (eCall m_sure_short (aC (eV 0) aN)) (aC (eCall m_rules_in (aC (eV 0) (aC (eV 1) aN))) (aC (eC (.int 2)) aN)))))
def m_many_in (xs : List D) : Option D := runF 2 2 b_many_in xs
-- many_begun: floor row
def b_many_begun : B := (sRet (eCall m_many_in (aC (eV 0) (aC (e1 oTuple (e1 (oSorted (.l .i)) (eV 1))) aN))))
def m_many_begun (xs : List D) : Option D := runF 2 2 b_many_begun xs
-- begun_rows: floor row blocks found piece many
def b_begun_rows : B := (sQ (sPar [2, 3] (pC (eCall m_blocks_in (aC (eV 0) aN)) (pL pN)))
  (sQ (sIf (e2 oEq (e1 oLen (eV 1)) (e1 oLen (eV 2))) (sRet (eLst aN)) sP)
  (sQ (sFor (.s 4) (iOf (e1 (oSorted (.l .i)) (eCall m_four_in (aC (eV 0) (aC (e2 oIx (eV 2) (e1 oLen (eV 1))) aN))))) (sQ (sSet 5 (eCall m_many_begun (aC (eV 0) (aC (eTup (aS (eV 1) (aC (eV 4) aN))) aN))))
  (sIf (e2 oGtI (eV 5) (eC (.int 0))) (sApp 3 (eTup (aC (eV 4) (aC (eV 5) aN)))) sP)))
  (sRet (eV 3)))))
def m_begun_rows (xs : List D) : Option D := runF 2 6 b_begun_rows xs
-- number_in: floor row found place own piece many
def b_number_in : B := (sQ (sSet 2 (eC (.int 0)))
  (sQ (sFor (.t [(.s 3), (.s 4)]) (iEnum (eV 1)) (sAug 2 oAddI (e1 oSum (eLC (.t [(.s 5), (.s 6)]) [5, 6] (iOf (eCall t_begun_rows (aC (eV 0) (aC (e2 oTk (eV 1) (eV 3)) aN)))) (some (e2 oLt (eV 5) (eV 4))) (eV 6)))))
  (sRet (eV 2))))
def m_number_in (xs : List D) : Option D := runF 2 7 b_number_in xs
-- row_at: floor number found left _ piece many
def b_row_at : B := (sQ (sIf (e2 oGeI (eV 1) (eCall t_many_begun (aC (eV 0) (aC (eTup aN) aN)))) sEx sP)
  (sQ (sPar [2, 3] (pC (eTup aN) (pC (eV 1) pN)))
  (sQ (sFor (.s 4) (iOf (eCall m_blocks_in (aC (eV 0) aN))) (sFor (.t [(.s 5), (.s 6)]) (iOf (eCall t_begun_rows (aC (eV 0) (aC (eV 2) aN)))) (sQ (sIf (e2 oLt (eV 3) (eV 6)) (sQ (sSet 2 (eTup (aS (eV 2) (aC (eV 5) aN))))
  sBk) sP)
  (sAug 3 oSub (eV 6)))))
  (sRet (eV 2)))))
def m_row_at (xs : List D) : Option D := runF 2 7 b_row_at xs
def x_row_at (xs : List D) : Rx := runX 2 7 b_row_at xs
-- first_laying: floor
def b_first_laying : B := (sRet (eCall m_laying_by_row (aC (eCall m_row_at (aC (eCall m_sure_floor (aC (eV 0) aN)) (aC (eC (.int 0)) aN))) aN)))
def m_first_laying (xs : List D) : Option D := runF 1 1 b_first_laying xs
-- last_laying: floor own
def b_last_laying : B := (sQ (sSet 1 (eCall m_sure_floor (aC (eV 0) aN)))
  (sRet (eCall m_laying_by_row (aC (eCall m_row_at (aC (eV 1) (aC (e2 oSub (eCall t_many_begun (aC (eV 1) (aC (eTup aN) aN))) (eC (.int 1))) aN))) aN))))
def m_last_laying (xs : List D) : Option D := runF 1 2 b_last_laying xs
-- next_laying: floor laying own told
def b_next_laying : B := (sQ (sSet 2 (eCall m_sure_floor (aC (eV 0) aN)))
  (sQ (sSet 3 (eCall m_row_in (aC (eCall m_sure_laying (aC (eV 2) (aC (eV 1) aN))) aN)))
  (sRetX m_laying_by_row x_row_at (aC (eV 2) (aC (e2 oAdd (eCall m_number_in (aC (eV 2) (aC (eV 3) aN))) (eC (.int 1))) aN)))))
def x_next_laying (xs : List D) : Rx := runX 2 4 b_next_laying xs
-- laying_ahead: floor laying own number
def b_laying_ahead : B := (sQ (sSet 2 (eCall m_sure_floor (aC (eV 0) aN)))
  (sQ (sSet 3 (eCall m_number_in (aC (eV 2) (aC (eCall m_row_in (aC (eCall m_sure_laying (aC (eV 2) (aC (eV 1) aN))) aN)) aN))))
  (sQ (sIf (e2 oEq (eV 3) (eC (.int 0))) sEx sP)
  (sRet (eCall m_laying_by_row (aC (eCall m_row_at (aC (eV 2) (aC (e2 oSub (eV 3) (eC (.int 1))) aN))) aN))))))
def x_laying_ahead (xs : List D) : Rx := runX 2 4 b_laying_ahead xs
def xA (k : Nat) (ds : List D) : Rx := match k with
  | 2 => match m_first_laying ds with
    | some d => .rt d
    | none => .no
  | 3 => match m_last_laying ds with
    | some d => .rt d
    | none => .no
  | _ => .no
def xB (k : Nat) (ds : List D) : Rx := match k with
  | 4 => x_next_laying ds
  | 5 => x_laying_ahead ds
  | _ => .no
def b_w_heard : B := sTry (sQ (sIf (e2 oLt (eV 0) (eC (.int 2))) (sRetC 4 xA (e2 oIx (eLst (aC (eC (.fn 2)) (aC (eC (.fn 3)) aN))) (eV 0)) (aC (eV 1) aN)) sP)
  (sRetC 4 xB (e2 oIx (eLst (aC (eC (.fn 4)) (aC (eC (.fn 5)) aN))) (e2 oSub (eV 0) (eC (.int 2)))) (aC (eV 1) (aC (eV 2) aN)))) dCN
def m_w_heard (xs : List D) : Option D := runF 3 4 b_w_heard xs
def m_next0 (ds : List D) : Option D := match x_next_laying ds with
  | .rt d => some d
  | _ => none
def m_ahead0 (ds : List D) : Option D := match x_laying_ahead ds with
  | .rt d => some d
  | _ => none
def kw_next (ds : List D) : Option D := match ds with
  | [l, f] => m_next0 [f, l]
  | _ => none
-- _law_by_hand_right: _law_one _law_two _law_got
def b_w_by_hand_right : B := (sQ (sUnp (.t [(.s 0), (.s 1)]) (eTup (aC (eTup (aC (eTup (aC (eC (.int 0)) (aC (eC (.int 1)) (aC (eC (.int 0)) aN)))) (aC (eTup (aC (eC (.int 1)) (aC (eC (.int 3)) (aC (eC (.int 3)) aN)))) (aC (eTup (aC (eC (.int 2)) (aC (eC (.int 0)) (aC (eC (.int 1)) aN)))) (aC (eTup (aC (eC (.int 3)) (aC (eC (.int 2)) (aC (eC (.int 2)) aN)))) aN))))) (aC (eTup (aC (eTup (aC (eC (.int 0)) (aC (eC (.int 2)) (aC (eC (.int 0)) aN)))) (aC (eTup (aC (eC (.int 1)) (aC (eC (.int 0)) (aC (eC (.int 1)) aN)))) (aC (eTup (aC (eC (.int 2)) (aC (eC (.int 3)) (aC (eC (.int 3)) aN)))) (aC (eTup (aC (eC (.int 3)) (aC (eC (.int 1)) (aC (eC (.int 2)) aN)))) aN))))) aN))))
  (sQ (sSet 2 (eLst (aC (eCall m_first_laying (aC (eLst (aC (eC (.int 1)) (aC (eC (.int 1)) aN))) aN)) (aC (eCall m_last_laying (aC (eTup (aC (eC (.int 1)) (aC (eC (.int 1)) aN))) aN)) (aC (eCall kw_next (aC (eCall (m_w_lists 6) (aC (eV 0) aN)) (aC (eTup (aC (eC (.int 1)) (aC (eC (.int 1)) aN))) aN))) (aC (eCall m_ahead0 (aC (eTup (aC (eC (.int 1)) (aC (eC (.int 1)) aN))) (aC (eV 1) aN))) aN))))))
  (sQ (sSet 2 (e2 oAdd (eV 2) (eLst (aC (eCall m_w_heard (aC (eC (.int 2)) (aC (eTup (aC (eC (.int 1)) (aC (eC (.int 1)) aN))) (aC (eV 1) aN)))) (aC (eCall m_w_heard (aC (eC (.int 3)) (aC (eTup (aC (eC (.int 1)) (aC (eC (.int 1)) aN))) (aC (eV 0) aN)))) aN)))))
  (sRet (eCall (m_w_same 6) (aC (eV 2) (aC (eLst (aC (eV 0) (aC (eV 1) (aC (eV 1) (aC (eV 0) (aC (eLst (aC (eC (.sym .cannot)) (aC (eC (.bl true)) aN))) (aC (eLst (aC (eC (.sym .cannot)) (aC (eC (.bl true)) aN))) aN))))))) aN)))))))
def m_w_by_hand_right (xs : List D) : Option D := runF 0 3 b_w_by_hand_right xs
end Tee
end
set_option maxRecDepth 1000000
set_option maxHeartbeats 0
noncomputable section
/-! The tables say what the mirror says: by the kernel. -/
namespace Tee
theorem ieq_eq {i j : Int} (h : ieq i j = true) : i = j := by
  unfold ieq at h
  split at h
  · rw [Nat.eq_of_beq_eq_true h]
  · rw [Nat.eq_of_beq_eq_true h]
  · cases h
theorem nn_inj : ∀ {i j : Sym}, i.nn = j.nn → i = j := by
  intro i j
  cases i <;> cases j <;> intro h <;> first | rfl | cases h
/-! ### equal trees -/
def eqXL (f : D → D → Bool) : List D → List D → Bool
  | [], [] => true
  | a :: r, b :: t => f a b && eqXL f r t
  | _, _ => false
def eqX : Nat → D → D → Bool
  | 0, _, _ => false
  | n + 1, a, b => match a with
    | .int i => match b with
      | .int j => ieq i j
      | _ => false
    | .tup l => match b with
      | .tup m => eqXL (eqX n) l m
      | _ => false
    | .lst l => match b with
      | .lst m => eqXL (eqX n) l m
      | _ => false
    | .sym i => match b with
      | .sym j => Nat.beq i.nn j.nn
      | _ => false
    | .bl true => match b with
      | .bl true => true
      | _ => false
    | .bl false => match b with
      | .bl false => true
      | _ => false
    | .non => match b with
      | .non => true
      | _ => false
    | _ => false
theorem eqXL_ok {f : D → D → Bool} (hf : ∀ a b, f a b = true → a = b) : ∀ l m, eqXL f l m = true → l = m
  | [], [], _ => rfl
  | [], _ :: _, h => by cases h
  | _ :: _, [], h => by cases h
  | a :: r, b :: t, h => by
    have h2 : (f a b && eqXL f r t) = true := h
    rw [Bool.and_eq_true] at h2
    rw [hf a b h2.1, eqXL_ok hf r t h2.2]
theorem eqX_ok : ∀ (n : Nat) (a b : D), eqX n a b = true → a = b
  | 0, _, _, h => by cases h
  | n + 1, a, b, h => by
    unfold eqX at h
    split at h
    · split at h
      · rw [ieq_eq h]
      · cases h
    · split at h
      · rw [eqXL_ok (eqX_ok n) _ _ h]
      · cases h
    · split at h
      · rw [eqXL_ok (eqX_ok n) _ _ h]
      · cases h
    · split at h
      · rw [nn_inj (Nat.eq_of_beq_eq_true h)]
      · cases h
    · split at h
      · rfl
      · cases h
    · split at h
      · rfl
      · cases h
    · split at h
      · rfl
      · cases h
    · cases h
def isS (o : Option D) (d : D) : Bool := match o with
  | some e => eqX 6 e d
  | none => false
theorem isS_ok {o : Option D} {d : D} (h : isS o d = true) : o = some d := by
  unfold isS at h
  split at h
  · rw [eqX_ok _ _ _ h]
  · cases h
/-! ### the tree of rows -/
def dk (a b : Nat) : D := .tup [.int (.ofNat a), .int (.ofNat b)]
def okC (k : D) : Tr → List D → Bool
  | .e, _ => true
  | .c x y w _ s r, pre => (isS (m_begun_rows [k, .tup (pre ++ [pc x y w])]) (.lst s.out) && okC k s (pre ++ [pc x y w])) && okC k r pre
def okN (k : D) (t : Tr) : Bool := isS (m_begun_rows [k, .tup []]) (.lst t.out) && (isS (m_many_begun [k, .tup []]) (.int (.ofNat t.tot)) && okC k t [])
theorem isP_ok {x y w : Nat} {p : D} (h : isP x y w p = true) : p = pc x y w := by
  unfold isP at h
  split at h
  · rw [Bool.and_eq_true, Bool.and_eq_true] at h
    rw [Nat.eq_of_beq_eq_true h.1, Nat.eq_of_beq_eq_true h.2.1, Nat.eq_of_beq_eq_true h.2.2]
    rfl
  · cases h
theorem sub_ok {k : D} : ∀ (t : Tr) {p : D} {s : Tr} {pre : List D}, t.sub p = some s → okC k t pre = true → m_begun_rows [k, .tup (pre ++ [p])] = some (.lst s.out) ∧ okC k s (pre ++ [p]) = true
  | .e, _, _, _, h, _ => by cases h
  | .c x y w n s' r, p, s, pre, h, q => by
    have h2 : (match isP x y w p with
      | true => some s'
      | false => r.sub p) = some s := h
    have q2 : ((isS (m_begun_rows [k, .tup (pre ++ [pc x y w])]) (.lst s'.out) && okC k s' (pre ++ [pc x y w])) && okC k r pre) = true := q
    rw [Bool.and_eq_true, Bool.and_eq_true] at q2
    split at h2
    · rename_i hp
      cases h2
      rw [isP_ok hp]
      exact ⟨isS_ok q2.1.1, q2.1.2⟩
    · exact sub_ok r h2 q2.2
theorem walk_ok {k : D} : ∀ (row : List D) {t u : Tr} {pre : List D}, okC k t pre = true → Tr.walk row t = some u → row ≠ [] → m_begun_rows [k, .tup (pre ++ row)] = some (.lst u.out)
  | [], _, _, _, _, _, h => absurd rfl h
  | p :: ps, t, u, pre, q, h, _ => by
    have h2 : (match t.sub p with
      | some s => Tr.walk ps s
      | none => none) = some u := h
    split at h2
    · rename_i s hs
      obtain ⟨z1, z2⟩ := sub_ok t hs q
      cases ps with
      | nil =>
        cases h2
        exact z1
      | cons p2 ps =>
        have := walk_ok (p2 :: ps) z2 h2 (by intro z; cases z)
        rw [List.append_assoc] at this
        exact this
    · cases h2
theorem okC_mk {k : D} {x y w n : Nat} {s r : Tr} {pre : List D} (h1 : isS (m_begun_rows [k, .tup (pre ++ [pc x y w])]) (.lst s.out) = true) (h2 : okC k s (pre ++ [pc x y w]) = true) (h3 : okC k r pre = true) : okC k (.c x y w n s r) pre = true := by
  show ((isS (m_begun_rows [k, .tup (pre ++ [pc x y w])]) (.lst s.out) && okC k s (pre ++ [pc x y w])) && okC k r pre) = true
  rw [h1, h2, h3]
  rfl
theorem okN_mk {k : D} {t : Tr} (h1 : isS (m_begun_rows [k, .tup []]) (.lst t.out) = true) (h2 : isS (m_many_begun [k, .tup []]) (.int (.ofNat t.tot)) = true) (h3 : okC k t [] = true) : okN k t = true := by
  unfold okN
  rw [h1, h2, h3]
  rfl
theorem c_tr11_1 : okC (dk 1 1) tr11_1 [] = true := by decide +kernel
theorem c_tr12_1 : okC (dk 1 2) tr12_1 [pc 0 1 0, pc 1 3 2] = true := by decide +kernel
theorem c_tr12_2 : okC (dk 1 2) tr12_2 [pc 0 1 0] = true := by decide +kernel
theorem n_tr12_3 : isS (m_begun_rows [(dk 1 2), .tup [pc 0 1 0, pc 1 3 2]]) (.lst (Tr.out tr12_1)) = true := by decide +kernel
theorem c_tr12_3 : okC (dk 1 2) tr12_3 [pc 0 1 0] = true := okC_mk n_tr12_3 c_tr12_1 c_tr12_2
theorem c_tr12_4 : okC (dk 1 2) tr12_4 [pc 1 0 1, pc 0 2 0, pc 0 5 0] = true := by decide +kernel
theorem c_tr12_5 : okC (dk 1 2) tr12_5 [pc 1 0 1, pc 0 2 0] = true := by decide +kernel
theorem n_tr12_6 : isS (m_begun_rows [(dk 1 2), .tup [pc 1 0 1, pc 0 2 0, pc 0 5 0]]) (.lst (Tr.out tr12_4)) = true := by decide +kernel
theorem c_tr12_6 : okC (dk 1 2) tr12_6 [pc 1 0 1, pc 0 2 0] = true := okC_mk n_tr12_6 c_tr12_4 c_tr12_5
theorem n_tr12_7 : isS (m_begun_rows [(dk 1 2), .tup [pc 1 0 1, pc 0 2 0]]) (.lst (Tr.out tr12_6)) = true := by decide +kernel
theorem c_tr12_7 : okC (dk 1 2) tr12_7 [pc 1 0 1] = true := okC_mk n_tr12_7 c_tr12_6 rfl
theorem n_tr12_8 : isS (m_begun_rows [(dk 1 2), .tup [pc 1 0 1]]) (.lst (Tr.out tr12_7)) = true := by decide +kernel
theorem c_tr12_8 : okC (dk 1 2) tr12_8 [] = true := okC_mk n_tr12_8 c_tr12_7 rfl
theorem n_tr12_9 : isS (m_begun_rows [(dk 1 2), .tup [pc 0 1 0]]) (.lst (Tr.out tr12_3)) = true := by decide +kernel
theorem c_tr12_9 : okC (dk 1 2) tr12_9 [] = true := okC_mk n_tr12_9 c_tr12_3 c_tr12_8
theorem c_tr21_1 : okC (dk 2 1) tr21_1 [pc 0 1 0, pc 1 3 3, pc 2 0 1] = true := by decide +kernel
theorem n_tr21_2 : isS (m_begun_rows [(dk 2 1), .tup [pc 0 1 0, pc 1 3 3, pc 2 0 1]]) (.lst (Tr.out tr21_1)) = true := by decide +kernel
theorem c_tr21_2 : okC (dk 2 1) tr21_2 [pc 0 1 0, pc 1 3 3] = true := okC_mk n_tr21_2 c_tr21_1 rfl
theorem n_tr21_3 : isS (m_begun_rows [(dk 2 1), .tup [pc 0 1 0, pc 1 3 3]]) (.lst (Tr.out tr21_2)) = true := by decide +kernel
theorem c_tr21_3 : okC (dk 2 1) tr21_3 [pc 0 1 0] = true := okC_mk n_tr21_3 c_tr21_2 rfl
theorem c_tr21_4 : okC (dk 2 1) tr21_4 [pc 1 0 1, pc 0 2 0, pc 3 1 2] = true := by decide +kernel
theorem c_tr21_5 : okC (dk 2 1) tr21_5 [pc 1 0 1, pc 0 2 0] = true := by decide +kernel
theorem n_tr21_6 : isS (m_begun_rows [(dk 2 1), .tup [pc 1 0 1, pc 0 2 0, pc 3 1 2]]) (.lst (Tr.out tr21_4)) = true := by decide +kernel
theorem c_tr21_6 : okC (dk 2 1) tr21_6 [pc 1 0 1, pc 0 2 0] = true := okC_mk n_tr21_6 c_tr21_4 c_tr21_5
theorem n_tr21_7 : isS (m_begun_rows [(dk 2 1), .tup [pc 1 0 1, pc 0 2 0]]) (.lst (Tr.out tr21_6)) = true := by decide +kernel
theorem c_tr21_7 : okC (dk 2 1) tr21_7 [pc 1 0 1] = true := okC_mk n_tr21_7 c_tr21_6 rfl
theorem n_tr21_8 : isS (m_begun_rows [(dk 2 1), .tup [pc 1 0 1]]) (.lst (Tr.out tr21_7)) = true := by decide +kernel
theorem c_tr21_8 : okC (dk 2 1) tr21_8 [] = true := okC_mk n_tr21_8 c_tr21_7 rfl
theorem n_tr21_9 : isS (m_begun_rows [(dk 2 1), .tup [pc 0 1 0]]) (.lst (Tr.out tr21_3)) = true := by decide +kernel
theorem c_tr21_9 : okC (dk 2 1) tr21_9 [] = true := okC_mk n_tr21_9 c_tr21_3 c_tr21_8
theorem c_tr13_1 : okC (dk 1 3) tr13_1 [pc 0 1 0, pc 1 3 2, pc 0 5 0, pc 1 7 2] = true := by decide +kernel
theorem c_tr13_2 : okC (dk 1 3) tr13_2 [pc 0 1 0, pc 1 3 2, pc 0 5 0, pc 1 7 3, pc 0 9 0] = true := by decide +kernel
theorem c_tr13_3 : okC (dk 1 3) tr13_3 [pc 0 1 0, pc 1 3 2, pc 0 5 0, pc 1 7 3] = true := by decide +kernel
theorem n_tr13_4 : isS (m_begun_rows [(dk 1 3), .tup [pc 0 1 0, pc 1 3 2, pc 0 5 0, pc 1 7 3, pc 0 9 0]]) (.lst (Tr.out tr13_2)) = true := by decide +kernel
theorem c_tr13_4 : okC (dk 1 3) tr13_4 [pc 0 1 0, pc 1 3 2, pc 0 5 0, pc 1 7 3] = true := okC_mk n_tr13_4 c_tr13_2 c_tr13_3
theorem n_tr13_5 : isS (m_begun_rows [(dk 1 3), .tup [pc 0 1 0, pc 1 3 2, pc 0 5 0, pc 1 7 3]]) (.lst (Tr.out tr13_4)) = true := by decide +kernel
theorem c_tr13_5 : okC (dk 1 3) tr13_5 [pc 0 1 0, pc 1 3 2, pc 0 5 0] = true := okC_mk n_tr13_5 c_tr13_4 rfl
theorem n_tr13_6 : isS (m_begun_rows [(dk 1 3), .tup [pc 0 1 0, pc 1 3 2, pc 0 5 0, pc 1 7 2]]) (.lst (Tr.out tr13_1)) = true := by decide +kernel
theorem c_tr13_6 : okC (dk 1 3) tr13_6 [pc 0 1 0, pc 1 3 2, pc 0 5 0] = true := okC_mk n_tr13_6 c_tr13_1 c_tr13_5
theorem n_tr13_7 : isS (m_begun_rows [(dk 1 3), .tup [pc 0 1 0, pc 1 3 2, pc 0 5 0]]) (.lst (Tr.out tr13_6)) = true := by decide +kernel
theorem c_tr13_7 : okC (dk 1 3) tr13_7 [pc 0 1 0, pc 1 3 2] = true := okC_mk n_tr13_7 c_tr13_6 rfl
theorem c_tr13_8 : okC (dk 1 3) tr13_8 [pc 0 1 0, pc 1 3 3, pc 0 5 0, pc 1 7 2] = true := by decide +kernel
theorem c_tr13_9 : okC (dk 1 3) tr13_9 [pc 0 1 0, pc 1 3 3, pc 0 5 0, pc 1 7 3, pc 0 9 0] = true := by decide +kernel
theorem c_tr13_10 : okC (dk 1 3) tr13_10 [pc 0 1 0, pc 1 3 3, pc 0 5 0, pc 1 7 3] = true := by decide +kernel
theorem n_tr13_11 : isS (m_begun_rows [(dk 1 3), .tup [pc 0 1 0, pc 1 3 3, pc 0 5 0, pc 1 7 3, pc 0 9 0]]) (.lst (Tr.out tr13_9)) = true := by decide +kernel
theorem c_tr13_11 : okC (dk 1 3) tr13_11 [pc 0 1 0, pc 1 3 3, pc 0 5 0, pc 1 7 3] = true := okC_mk n_tr13_11 c_tr13_9 c_tr13_10
theorem n_tr13_12 : isS (m_begun_rows [(dk 1 3), .tup [pc 0 1 0, pc 1 3 3, pc 0 5 0, pc 1 7 3]]) (.lst (Tr.out tr13_11)) = true := by decide +kernel
theorem c_tr13_12 : okC (dk 1 3) tr13_12 [pc 0 1 0, pc 1 3 3, pc 0 5 0] = true := okC_mk n_tr13_12 c_tr13_11 rfl
theorem n_tr13_13 : isS (m_begun_rows [(dk 1 3), .tup [pc 0 1 0, pc 1 3 3, pc 0 5 0, pc 1 7 2]]) (.lst (Tr.out tr13_8)) = true := by decide +kernel
theorem c_tr13_13 : okC (dk 1 3) tr13_13 [pc 0 1 0, pc 1 3 3, pc 0 5 0] = true := okC_mk n_tr13_13 c_tr13_8 c_tr13_12
theorem c_tr13_14 : okC (dk 1 3) tr13_14 [pc 0 1 0, pc 1 3 3, pc 1 4 1, pc 0 6 0, pc 0 9 0] = true := by decide +kernel
theorem c_tr13_15 : okC (dk 1 3) tr13_15 [pc 0 1 0, pc 1 3 3, pc 1 4 1, pc 0 6 0, pc 1 8 1] = true := by decide +kernel
theorem c_tr13_16 : okC (dk 1 3) tr13_16 [pc 0 1 0, pc 1 3 3, pc 1 4 1, pc 0 6 0] = true := by decide +kernel
theorem n_tr13_17 : isS (m_begun_rows [(dk 1 3), .tup [pc 0 1 0, pc 1 3 3, pc 1 4 1, pc 0 6 0, pc 1 8 1]]) (.lst (Tr.out tr13_15)) = true := by decide +kernel
theorem c_tr13_17 : okC (dk 1 3) tr13_17 [pc 0 1 0, pc 1 3 3, pc 1 4 1, pc 0 6 0] = true := okC_mk n_tr13_17 c_tr13_15 c_tr13_16
theorem n_tr13_18 : isS (m_begun_rows [(dk 1 3), .tup [pc 0 1 0, pc 1 3 3, pc 1 4 1, pc 0 6 0, pc 0 9 0]]) (.lst (Tr.out tr13_14)) = true := by decide +kernel
theorem c_tr13_18 : okC (dk 1 3) tr13_18 [pc 0 1 0, pc 1 3 3, pc 1 4 1, pc 0 6 0] = true := okC_mk n_tr13_18 c_tr13_14 c_tr13_17
theorem n_tr13_19 : isS (m_begun_rows [(dk 1 3), .tup [pc 0 1 0, pc 1 3 3, pc 1 4 1, pc 0 6 0]]) (.lst (Tr.out tr13_18)) = true := by decide +kernel
theorem c_tr13_19 : okC (dk 1 3) tr13_19 [pc 0 1 0, pc 1 3 3, pc 1 4 1] = true := okC_mk n_tr13_19 c_tr13_18 rfl
theorem n_tr13_20 : isS (m_begun_rows [(dk 1 3), .tup [pc 0 1 0, pc 1 3 3, pc 1 4 1]]) (.lst (Tr.out tr13_19)) = true := by decide +kernel
theorem c_tr13_20 : okC (dk 1 3) tr13_20 [pc 0 1 0, pc 1 3 3] = true := okC_mk n_tr13_20 c_tr13_19 rfl
theorem n_tr13_21 : isS (m_begun_rows [(dk 1 3), .tup [pc 0 1 0, pc 1 3 3, pc 0 5 0]]) (.lst (Tr.out tr13_13)) = true := by decide +kernel
theorem c_tr13_21 : okC (dk 1 3) tr13_21 [pc 0 1 0, pc 1 3 3] = true := okC_mk n_tr13_21 c_tr13_13 c_tr13_20
theorem n_tr13_22 : isS (m_begun_rows [(dk 1 3), .tup [pc 0 1 0, pc 1 3 3]]) (.lst (Tr.out tr13_21)) = true := by decide +kernel
theorem c_tr13_22 : okC (dk 1 3) tr13_22 [pc 0 1 0] = true := okC_mk n_tr13_22 c_tr13_21 rfl
theorem n_tr13_23 : isS (m_begun_rows [(dk 1 3), .tup [pc 0 1 0, pc 1 3 2]]) (.lst (Tr.out tr13_7)) = true := by decide +kernel
theorem c_tr13_23 : okC (dk 1 3) tr13_23 [pc 0 1 0] = true := okC_mk n_tr13_23 c_tr13_7 c_tr13_22
theorem c_tr13_24 : okC (dk 1 3) tr13_24 [pc 1 0 1, pc 0 2 0, pc 0 5 0, pc 1 7 2] = true := by decide +kernel
theorem c_tr13_25 : okC (dk 1 3) tr13_25 [pc 1 0 1, pc 0 2 0, pc 0 5 0, pc 1 7 3, pc 0 9 0] = true := by decide +kernel
theorem c_tr13_26 : okC (dk 1 3) tr13_26 [pc 1 0 1, pc 0 2 0, pc 0 5 0, pc 1 7 3] = true := by decide +kernel
theorem n_tr13_27 : isS (m_begun_rows [(dk 1 3), .tup [pc 1 0 1, pc 0 2 0, pc 0 5 0, pc 1 7 3, pc 0 9 0]]) (.lst (Tr.out tr13_25)) = true := by decide +kernel
theorem c_tr13_27 : okC (dk 1 3) tr13_27 [pc 1 0 1, pc 0 2 0, pc 0 5 0, pc 1 7 3] = true := okC_mk n_tr13_27 c_tr13_25 c_tr13_26
theorem n_tr13_28 : isS (m_begun_rows [(dk 1 3), .tup [pc 1 0 1, pc 0 2 0, pc 0 5 0, pc 1 7 3]]) (.lst (Tr.out tr13_27)) = true := by decide +kernel
theorem c_tr13_28 : okC (dk 1 3) tr13_28 [pc 1 0 1, pc 0 2 0, pc 0 5 0] = true := okC_mk n_tr13_28 c_tr13_27 rfl
theorem n_tr13_29 : isS (m_begun_rows [(dk 1 3), .tup [pc 1 0 1, pc 0 2 0, pc 0 5 0, pc 1 7 2]]) (.lst (Tr.out tr13_24)) = true := by decide +kernel
theorem c_tr13_29 : okC (dk 1 3) tr13_29 [pc 1 0 1, pc 0 2 0, pc 0 5 0] = true := okC_mk n_tr13_29 c_tr13_24 c_tr13_28
theorem c_tr13_30 : okC (dk 1 3) tr13_30 [pc 1 0 1, pc 0 2 0, pc 1 4 1, pc 0 6 0, pc 0 9 0] = true := by decide +kernel
theorem c_tr13_31 : okC (dk 1 3) tr13_31 [pc 1 0 1, pc 0 2 0, pc 1 4 1, pc 0 6 0, pc 1 8 1] = true := by decide +kernel
theorem c_tr13_32 : okC (dk 1 3) tr13_32 [pc 1 0 1, pc 0 2 0, pc 1 4 1, pc 0 6 0] = true := by decide +kernel
theorem n_tr13_33 : isS (m_begun_rows [(dk 1 3), .tup [pc 1 0 1, pc 0 2 0, pc 1 4 1, pc 0 6 0, pc 1 8 1]]) (.lst (Tr.out tr13_31)) = true := by decide +kernel
theorem c_tr13_33 : okC (dk 1 3) tr13_33 [pc 1 0 1, pc 0 2 0, pc 1 4 1, pc 0 6 0] = true := okC_mk n_tr13_33 c_tr13_31 c_tr13_32
theorem n_tr13_34 : isS (m_begun_rows [(dk 1 3), .tup [pc 1 0 1, pc 0 2 0, pc 1 4 1, pc 0 6 0, pc 0 9 0]]) (.lst (Tr.out tr13_30)) = true := by decide +kernel
theorem c_tr13_34 : okC (dk 1 3) tr13_34 [pc 1 0 1, pc 0 2 0, pc 1 4 1, pc 0 6 0] = true := okC_mk n_tr13_34 c_tr13_30 c_tr13_33
theorem n_tr13_35 : isS (m_begun_rows [(dk 1 3), .tup [pc 1 0 1, pc 0 2 0, pc 1 4 1, pc 0 6 0]]) (.lst (Tr.out tr13_34)) = true := by decide +kernel
theorem c_tr13_35 : okC (dk 1 3) tr13_35 [pc 1 0 1, pc 0 2 0, pc 1 4 1] = true := okC_mk n_tr13_35 c_tr13_34 rfl
theorem c_tr13_36 : okC (dk 1 3) tr13_36 [pc 1 0 1, pc 0 2 0, pc 1 4 2, pc 0 6 0, pc 0 9 0] = true := by decide +kernel
theorem c_tr13_37 : okC (dk 1 3) tr13_37 [pc 1 0 1, pc 0 2 0, pc 1 4 2, pc 0 6 0, pc 1 8 1] = true := by decide +kernel
theorem c_tr13_38 : okC (dk 1 3) tr13_38 [pc 1 0 1, pc 0 2 0, pc 1 4 2, pc 0 6 0] = true := by decide +kernel
theorem n_tr13_39 : isS (m_begun_rows [(dk 1 3), .tup [pc 1 0 1, pc 0 2 0, pc 1 4 2, pc 0 6 0, pc 1 8 1]]) (.lst (Tr.out tr13_37)) = true := by decide +kernel
theorem c_tr13_39 : okC (dk 1 3) tr13_39 [pc 1 0 1, pc 0 2 0, pc 1 4 2, pc 0 6 0] = true := okC_mk n_tr13_39 c_tr13_37 c_tr13_38
theorem n_tr13_40 : isS (m_begun_rows [(dk 1 3), .tup [pc 1 0 1, pc 0 2 0, pc 1 4 2, pc 0 6 0, pc 0 9 0]]) (.lst (Tr.out tr13_36)) = true := by decide +kernel
theorem c_tr13_40 : okC (dk 1 3) tr13_40 [pc 1 0 1, pc 0 2 0, pc 1 4 2, pc 0 6 0] = true := okC_mk n_tr13_40 c_tr13_36 c_tr13_39
theorem n_tr13_41 : isS (m_begun_rows [(dk 1 3), .tup [pc 1 0 1, pc 0 2 0, pc 1 4 2, pc 0 6 0]]) (.lst (Tr.out tr13_40)) = true := by decide +kernel
theorem c_tr13_41 : okC (dk 1 3) tr13_41 [pc 1 0 1, pc 0 2 0, pc 1 4 2] = true := okC_mk n_tr13_41 c_tr13_40 rfl
theorem n_tr13_42 : isS (m_begun_rows [(dk 1 3), .tup [pc 1 0 1, pc 0 2 0, pc 1 4 2]]) (.lst (Tr.out tr13_41)) = true := by decide +kernel
theorem c_tr13_42 : okC (dk 1 3) tr13_42 [pc 1 0 1, pc 0 2 0] = true := okC_mk n_tr13_42 c_tr13_41 rfl
theorem n_tr13_43 : isS (m_begun_rows [(dk 1 3), .tup [pc 1 0 1, pc 0 2 0, pc 1 4 1]]) (.lst (Tr.out tr13_35)) = true := by decide +kernel
theorem c_tr13_43 : okC (dk 1 3) tr13_43 [pc 1 0 1, pc 0 2 0] = true := okC_mk n_tr13_43 c_tr13_35 c_tr13_42
theorem n_tr13_44 : isS (m_begun_rows [(dk 1 3), .tup [pc 1 0 1, pc 0 2 0, pc 0 5 0]]) (.lst (Tr.out tr13_29)) = true := by decide +kernel
theorem c_tr13_44 : okC (dk 1 3) tr13_44 [pc 1 0 1, pc 0 2 0] = true := okC_mk n_tr13_44 c_tr13_29 c_tr13_43
theorem n_tr13_45 : isS (m_begun_rows [(dk 1 3), .tup [pc 1 0 1, pc 0 2 0]]) (.lst (Tr.out tr13_44)) = true := by decide +kernel
theorem c_tr13_45 : okC (dk 1 3) tr13_45 [pc 1 0 1] = true := okC_mk n_tr13_45 c_tr13_44 rfl
theorem n_tr13_46 : isS (m_begun_rows [(dk 1 3), .tup [pc 1 0 1]]) (.lst (Tr.out tr13_45)) = true := by decide +kernel
theorem c_tr13_46 : okC (dk 1 3) tr13_46 [] = true := okC_mk n_tr13_46 c_tr13_45 rfl
theorem n_tr13_47 : isS (m_begun_rows [(dk 1 3), .tup [pc 0 1 0]]) (.lst (Tr.out tr13_23)) = true := by decide +kernel
theorem c_tr13_47 : okC (dk 1 3) tr13_47 [] = true := okC_mk n_tr13_47 c_tr13_23 c_tr13_46
theorem c_tr31_1 : okC (dk 3 1) tr31_1 [pc 0 1 0, pc 1 3 3, pc 2 0 1, pc 3 2 1, pc 4 1 3, pc 5 3 3, pc 6 0 1] = true := by decide +kernel
theorem n_tr31_2 : isS (m_begun_rows [(dk 3 1), .tup [pc 0 1 0, pc 1 3 3, pc 2 0 1, pc 3 2 1, pc 4 1 3, pc 5 3 3, pc 6 0 1]]) (.lst (Tr.out tr31_1)) = true := by decide +kernel
theorem c_tr31_2 : okC (dk 3 1) tr31_2 [pc 0 1 0, pc 1 3 3, pc 2 0 1, pc 3 2 1, pc 4 1 3, pc 5 3 3] = true := okC_mk n_tr31_2 c_tr31_1 rfl
theorem n_tr31_3 : isS (m_begun_rows [(dk 3 1), .tup [pc 0 1 0, pc 1 3 3, pc 2 0 1, pc 3 2 1, pc 4 1 3, pc 5 3 3]]) (.lst (Tr.out tr31_2)) = true := by decide +kernel
theorem c_tr31_3 : okC (dk 3 1) tr31_3 [pc 0 1 0, pc 1 3 3, pc 2 0 1, pc 3 2 1, pc 4 1 3] = true := okC_mk n_tr31_3 c_tr31_2 rfl
theorem n_tr31_4 : isS (m_begun_rows [(dk 3 1), .tup [pc 0 1 0, pc 1 3 3, pc 2 0 1, pc 3 2 1, pc 4 1 3]]) (.lst (Tr.out tr31_3)) = true := by decide +kernel
theorem c_tr31_4 : okC (dk 3 1) tr31_4 [pc 0 1 0, pc 1 3 3, pc 2 0 1, pc 3 2 1] = true := okC_mk n_tr31_4 c_tr31_3 rfl
theorem c_tr31_5 : okC (dk 3 1) tr31_5 [pc 0 1 0, pc 1 3 3, pc 2 0 1, pc 3 2 2, pc 4 1 0, pc 5 3 3, pc 6 0 1] = true := by decide +kernel
theorem n_tr31_6 : isS (m_begun_rows [(dk 3 1), .tup [pc 0 1 0, pc 1 3 3, pc 2 0 1, pc 3 2 2, pc 4 1 0, pc 5 3 3, pc 6 0 1]]) (.lst (Tr.out tr31_5)) = true := by decide +kernel
theorem c_tr31_6 : okC (dk 3 1) tr31_6 [pc 0 1 0, pc 1 3 3, pc 2 0 1, pc 3 2 2, pc 4 1 0, pc 5 3 3] = true := okC_mk n_tr31_6 c_tr31_5 rfl
theorem n_tr31_7 : isS (m_begun_rows [(dk 3 1), .tup [pc 0 1 0, pc 1 3 3, pc 2 0 1, pc 3 2 2, pc 4 1 0, pc 5 3 3]]) (.lst (Tr.out tr31_6)) = true := by decide +kernel
theorem c_tr31_7 : okC (dk 3 1) tr31_7 [pc 0 1 0, pc 1 3 3, pc 2 0 1, pc 3 2 2, pc 4 1 0] = true := okC_mk n_tr31_7 c_tr31_6 rfl
theorem c_tr31_8 : okC (dk 3 1) tr31_8 [pc 0 1 0, pc 1 3 3, pc 2 0 1, pc 3 2 2, pc 5 0 1, pc 4 2 0, pc 7 1 2] = true := by decide +kernel
theorem c_tr31_9 : okC (dk 3 1) tr31_9 [pc 0 1 0, pc 1 3 3, pc 2 0 1, pc 3 2 2, pc 5 0 1, pc 4 2 0] = true := by decide +kernel
theorem n_tr31_10 : isS (m_begun_rows [(dk 3 1), .tup [pc 0 1 0, pc 1 3 3, pc 2 0 1, pc 3 2 2, pc 5 0 1, pc 4 2 0, pc 7 1 2]]) (.lst (Tr.out tr31_8)) = true := by decide +kernel
theorem c_tr31_10 : okC (dk 3 1) tr31_10 [pc 0 1 0, pc 1 3 3, pc 2 0 1, pc 3 2 2, pc 5 0 1, pc 4 2 0] = true := okC_mk n_tr31_10 c_tr31_8 c_tr31_9
theorem n_tr31_11 : isS (m_begun_rows [(dk 3 1), .tup [pc 0 1 0, pc 1 3 3, pc 2 0 1, pc 3 2 2, pc 5 0 1, pc 4 2 0]]) (.lst (Tr.out tr31_10)) = true := by decide +kernel
theorem c_tr31_11 : okC (dk 3 1) tr31_11 [pc 0 1 0, pc 1 3 3, pc 2 0 1, pc 3 2 2, pc 5 0 1] = true := okC_mk n_tr31_11 c_tr31_10 rfl
theorem n_tr31_12 : isS (m_begun_rows [(dk 3 1), .tup [pc 0 1 0, pc 1 3 3, pc 2 0 1, pc 3 2 2, pc 5 0 1]]) (.lst (Tr.out tr31_11)) = true := by decide +kernel
theorem c_tr31_12 : okC (dk 3 1) tr31_12 [pc 0 1 0, pc 1 3 3, pc 2 0 1, pc 3 2 2] = true := okC_mk n_tr31_12 c_tr31_11 rfl
theorem n_tr31_13 : isS (m_begun_rows [(dk 3 1), .tup [pc 0 1 0, pc 1 3 3, pc 2 0 1, pc 3 2 2, pc 4 1 0]]) (.lst (Tr.out tr31_7)) = true := by decide +kernel
theorem c_tr31_13 : okC (dk 3 1) tr31_13 [pc 0 1 0, pc 1 3 3, pc 2 0 1, pc 3 2 2] = true := okC_mk n_tr31_13 c_tr31_7 c_tr31_12
theorem n_tr31_14 : isS (m_begun_rows [(dk 3 1), .tup [pc 0 1 0, pc 1 3 3, pc 2 0 1, pc 3 2 2]]) (.lst (Tr.out tr31_13)) = true := by decide +kernel
theorem c_tr31_14 : okC (dk 3 1) tr31_14 [pc 0 1 0, pc 1 3 3, pc 2 0 1] = true := okC_mk n_tr31_14 c_tr31_13 rfl
theorem n_tr31_15 : isS (m_begun_rows [(dk 3 1), .tup [pc 0 1 0, pc 1 3 3, pc 2 0 1, pc 3 2 1]]) (.lst (Tr.out tr31_4)) = true := by decide +kernel
theorem c_tr31_15 : okC (dk 3 1) tr31_15 [pc 0 1 0, pc 1 3 3, pc 2 0 1] = true := okC_mk n_tr31_15 c_tr31_4 c_tr31_14
theorem n_tr31_16 : isS (m_begun_rows [(dk 3 1), .tup [pc 0 1 0, pc 1 3 3, pc 2 0 1]]) (.lst (Tr.out tr31_15)) = true := by decide +kernel
theorem c_tr31_16 : okC (dk 3 1) tr31_16 [pc 0 1 0, pc 1 3 3] = true := okC_mk n_tr31_16 c_tr31_15 rfl
theorem n_tr31_17 : isS (m_begun_rows [(dk 3 1), .tup [pc 0 1 0, pc 1 3 3]]) (.lst (Tr.out tr31_16)) = true := by decide +kernel
theorem c_tr31_17 : okC (dk 3 1) tr31_17 [pc 0 1 0] = true := okC_mk n_tr31_17 c_tr31_16 rfl
theorem c_tr31_18 : okC (dk 3 1) tr31_18 [pc 1 0 1, pc 0 2 0, pc 3 1 2, pc 2 3 3, pc 4 1 0, pc 5 3 3, pc 6 0 1] = true := by decide +kernel
theorem n_tr31_19 : isS (m_begun_rows [(dk 3 1), .tup [pc 1 0 1, pc 0 2 0, pc 3 1 2, pc 2 3 3, pc 4 1 0, pc 5 3 3, pc 6 0 1]]) (.lst (Tr.out tr31_18)) = true := by decide +kernel
theorem c_tr31_19 : okC (dk 3 1) tr31_19 [pc 1 0 1, pc 0 2 0, pc 3 1 2, pc 2 3 3, pc 4 1 0, pc 5 3 3] = true := okC_mk n_tr31_19 c_tr31_18 rfl
theorem n_tr31_20 : isS (m_begun_rows [(dk 3 1), .tup [pc 1 0 1, pc 0 2 0, pc 3 1 2, pc 2 3 3, pc 4 1 0, pc 5 3 3]]) (.lst (Tr.out tr31_19)) = true := by decide +kernel
theorem c_tr31_20 : okC (dk 3 1) tr31_20 [pc 1 0 1, pc 0 2 0, pc 3 1 2, pc 2 3 3, pc 4 1 0] = true := okC_mk n_tr31_20 c_tr31_19 rfl
theorem c_tr31_21 : okC (dk 3 1) tr31_21 [pc 1 0 1, pc 0 2 0, pc 3 1 2, pc 2 3 3, pc 5 0 1, pc 4 2 0, pc 7 1 2] = true := by decide +kernel
theorem c_tr31_22 : okC (dk 3 1) tr31_22 [pc 1 0 1, pc 0 2 0, pc 3 1 2, pc 2 3 3, pc 5 0 1, pc 4 2 0] = true := by decide +kernel
theorem n_tr31_23 : isS (m_begun_rows [(dk 3 1), .tup [pc 1 0 1, pc 0 2 0, pc 3 1 2, pc 2 3 3, pc 5 0 1, pc 4 2 0, pc 7 1 2]]) (.lst (Tr.out tr31_21)) = true := by decide +kernel
theorem c_tr31_23 : okC (dk 3 1) tr31_23 [pc 1 0 1, pc 0 2 0, pc 3 1 2, pc 2 3 3, pc 5 0 1, pc 4 2 0] = true := okC_mk n_tr31_23 c_tr31_21 c_tr31_22
theorem n_tr31_24 : isS (m_begun_rows [(dk 3 1), .tup [pc 1 0 1, pc 0 2 0, pc 3 1 2, pc 2 3 3, pc 5 0 1, pc 4 2 0]]) (.lst (Tr.out tr31_23)) = true := by decide +kernel
theorem c_tr31_24 : okC (dk 3 1) tr31_24 [pc 1 0 1, pc 0 2 0, pc 3 1 2, pc 2 3 3, pc 5 0 1] = true := okC_mk n_tr31_24 c_tr31_23 rfl
theorem n_tr31_25 : isS (m_begun_rows [(dk 3 1), .tup [pc 1 0 1, pc 0 2 0, pc 3 1 2, pc 2 3 3, pc 5 0 1]]) (.lst (Tr.out tr31_24)) = true := by decide +kernel
theorem c_tr31_25 : okC (dk 3 1) tr31_25 [pc 1 0 1, pc 0 2 0, pc 3 1 2, pc 2 3 3] = true := okC_mk n_tr31_25 c_tr31_24 rfl
theorem n_tr31_26 : isS (m_begun_rows [(dk 3 1), .tup [pc 1 0 1, pc 0 2 0, pc 3 1 2, pc 2 3 3, pc 4 1 0]]) (.lst (Tr.out tr31_20)) = true := by decide +kernel
theorem c_tr31_26 : okC (dk 3 1) tr31_26 [pc 1 0 1, pc 0 2 0, pc 3 1 2, pc 2 3 3] = true := okC_mk n_tr31_26 c_tr31_20 c_tr31_25
theorem n_tr31_27 : isS (m_begun_rows [(dk 3 1), .tup [pc 1 0 1, pc 0 2 0, pc 3 1 2, pc 2 3 3]]) (.lst (Tr.out tr31_26)) = true := by decide +kernel
theorem c_tr31_27 : okC (dk 3 1) tr31_27 [pc 1 0 1, pc 0 2 0, pc 3 1 2] = true := okC_mk n_tr31_27 c_tr31_26 rfl
theorem c_tr31_28 : okC (dk 3 1) tr31_28 [pc 1 0 1, pc 0 2 0, pc 3 1 3, pc 2 3 3, pc 5 0 1, pc 4 2 1, pc 7 1 2] = true := by decide +kernel
theorem c_tr31_29 : okC (dk 3 1) tr31_29 [pc 1 0 1, pc 0 2 0, pc 3 1 3, pc 2 3 3, pc 5 0 1, pc 4 2 1] = true := by decide +kernel
theorem n_tr31_30 : isS (m_begun_rows [(dk 3 1), .tup [pc 1 0 1, pc 0 2 0, pc 3 1 3, pc 2 3 3, pc 5 0 1, pc 4 2 1, pc 7 1 2]]) (.lst (Tr.out tr31_28)) = true := by decide +kernel
theorem c_tr31_30 : okC (dk 3 1) tr31_30 [pc 1 0 1, pc 0 2 0, pc 3 1 3, pc 2 3 3, pc 5 0 1, pc 4 2 1] = true := okC_mk n_tr31_30 c_tr31_28 c_tr31_29
theorem n_tr31_31 : isS (m_begun_rows [(dk 3 1), .tup [pc 1 0 1, pc 0 2 0, pc 3 1 3, pc 2 3 3, pc 5 0 1, pc 4 2 1]]) (.lst (Tr.out tr31_30)) = true := by decide +kernel
theorem c_tr31_31 : okC (dk 3 1) tr31_31 [pc 1 0 1, pc 0 2 0, pc 3 1 3, pc 2 3 3, pc 5 0 1] = true := okC_mk n_tr31_31 c_tr31_30 rfl
theorem n_tr31_32 : isS (m_begun_rows [(dk 3 1), .tup [pc 1 0 1, pc 0 2 0, pc 3 1 3, pc 2 3 3, pc 5 0 1]]) (.lst (Tr.out tr31_31)) = true := by decide +kernel
theorem c_tr31_32 : okC (dk 3 1) tr31_32 [pc 1 0 1, pc 0 2 0, pc 3 1 3, pc 2 3 3] = true := okC_mk n_tr31_32 c_tr31_31 rfl
theorem n_tr31_33 : isS (m_begun_rows [(dk 3 1), .tup [pc 1 0 1, pc 0 2 0, pc 3 1 3, pc 2 3 3]]) (.lst (Tr.out tr31_32)) = true := by decide +kernel
theorem c_tr31_33 : okC (dk 3 1) tr31_33 [pc 1 0 1, pc 0 2 0, pc 3 1 3] = true := okC_mk n_tr31_33 c_tr31_32 rfl
theorem n_tr31_34 : isS (m_begun_rows [(dk 3 1), .tup [pc 1 0 1, pc 0 2 0, pc 3 1 3]]) (.lst (Tr.out tr31_33)) = true := by decide +kernel
theorem c_tr31_34 : okC (dk 3 1) tr31_34 [pc 1 0 1, pc 0 2 0] = true := okC_mk n_tr31_34 c_tr31_33 rfl
theorem n_tr31_35 : isS (m_begun_rows [(dk 3 1), .tup [pc 1 0 1, pc 0 2 0, pc 3 1 2]]) (.lst (Tr.out tr31_27)) = true := by decide +kernel
theorem c_tr31_35 : okC (dk 3 1) tr31_35 [pc 1 0 1, pc 0 2 0] = true := okC_mk n_tr31_35 c_tr31_27 c_tr31_34
theorem n_tr31_36 : isS (m_begun_rows [(dk 3 1), .tup [pc 1 0 1, pc 0 2 0]]) (.lst (Tr.out tr31_35)) = true := by decide +kernel
theorem c_tr31_36 : okC (dk 3 1) tr31_36 [pc 1 0 1] = true := okC_mk n_tr31_36 c_tr31_35 rfl
theorem n_tr31_37 : isS (m_begun_rows [(dk 3 1), .tup [pc 1 0 1]]) (.lst (Tr.out tr31_36)) = true := by decide +kernel
theorem c_tr31_37 : okC (dk 3 1) tr31_37 [] = true := okC_mk n_tr31_37 c_tr31_36 rfl
theorem n_tr31_38 : isS (m_begun_rows [(dk 3 1), .tup [pc 0 1 0]]) (.lst (Tr.out tr31_17)) = true := by decide +kernel
theorem c_tr31_38 : okC (dk 3 1) tr31_38 [] = true := okC_mk n_tr31_38 c_tr31_17 c_tr31_37
theorem r_tr11 : isS (m_begun_rows [(dk 1 1), .tup []]) (.lst (Tr.out tr11)) = true := by decide +kernel
theorem m_tr11 : isS (m_many_begun [(dk 1 1), .tup []]) (.int (.ofNat (Tr.tot tr11))) = true := by decide +kernel
theorem ok11 : okN (dk 1 1) tr11 = true := okN_mk r_tr11 m_tr11 c_tr11_1
theorem r_tr12 : isS (m_begun_rows [(dk 1 2), .tup []]) (.lst (Tr.out tr12)) = true := by decide +kernel
theorem m_tr12 : isS (m_many_begun [(dk 1 2), .tup []]) (.int (.ofNat (Tr.tot tr12))) = true := by decide +kernel
theorem ok12 : okN (dk 1 2) tr12 = true := okN_mk r_tr12 m_tr12 c_tr12_9
theorem r_tr21 : isS (m_begun_rows [(dk 2 1), .tup []]) (.lst (Tr.out tr21)) = true := by decide +kernel
theorem m_tr21 : isS (m_many_begun [(dk 2 1), .tup []]) (.int (.ofNat (Tr.tot tr21))) = true := by decide +kernel
theorem ok21 : okN (dk 2 1) tr21 = true := okN_mk r_tr21 m_tr21 c_tr21_9
theorem r_tr13 : isS (m_begun_rows [(dk 1 3), .tup []]) (.lst (Tr.out tr13)) = true := by decide +kernel
theorem m_tr13 : isS (m_many_begun [(dk 1 3), .tup []]) (.int (.ofNat (Tr.tot tr13))) = true := by decide +kernel
theorem ok13 : okN (dk 1 3) tr13 = true := okN_mk r_tr13 m_tr13 c_tr13_47
theorem r_tr31 : isS (m_begun_rows [(dk 3 1), .tup []]) (.lst (Tr.out tr31)) = true := by decide +kernel
theorem m_tr31 : isS (m_many_begun [(dk 3 1), .tup []]) (.int (.ofNat (Tr.tot tr31))) = true := by decide +kernel
theorem ok31 : okN (dk 3 1) tr31 = true := okN_mk r_tr31 m_tr31 c_tr31_38
theorem tr_ok {a b : Nat} {t : Tr} (h : trOf a b = some t) : okN (dk a b) t = true := by
  unfold trOf at h
  split at h <;> first | (cases h; done) | skip
  · cases h; exact ok11
  · cases h; exact ok12
  · cases h; exact ok21
  · cases h; exact ok13
  · cases h; exact ok31
theorem t_begun_ok (ds : List D) (d : D) (h : t_begun_rows ds = some d) : m_begun_rows ds = some d := by
  unfold t_begun_rows at h
  split at h
  · rename_i a b row
    split at h
    · rename_i t ht
      have q := tr_ok ht
      unfold okN at q
      rw [Bool.and_eq_true, Bool.and_eq_true] at q
      split at h
      · rename_i u hu
        cases h
        cases row with
        | nil =>
          cases hu
          exact isS_ok q.1
        | cons p ps => exact walk_ok (p :: ps) q.2.2 hu (by intro z; cases z)
      · cases h
    · cases h
  · cases h
theorem t_many_ok (ds : List D) (d : D) (h : t_many_begun ds = some d) : m_many_begun ds = some d := by
  unfold t_many_begun at h
  split at h
  · rename_i a b
    split at h
    · rename_i t ht
      have q := tr_ok ht
      unfold okN at q
      rw [Bool.and_eq_true, Bool.and_eq_true] at q
      have e : frN t.tot (fun n => some (D.int (.ofNat n))) = some (.int (.ofNat t.tot)) := by
        cases t.tot <;> rfl
      rw [e] at h
      cases h
      exact isS_ok q.2.1
    · cases h
  · cases h
theorem r12 : isS (m_w_rows [dk 1 2]) (.lst (rows12.map lyT)) = true := by decide +kernel
theorem r21 : isS (m_w_rows [dk 2 1]) (.lst (rows21.map lyT)) = true := by decide +kernel
theorem r13 : isS (m_w_rows [dk 1 3]) (.lst (rows13.map lyT)) = true := by decide +kernel
theorem r31 : isS (m_w_rows [dk 3 1]) (.lst (rows31.map lyT)) = true := by decide +kernel
theorem t_rows_ok (ds : List D) (d : D) (h : t_w_rows ds = some d) : m_w_rows ds = some d := by
  unfold t_w_rows at h
  split at h
  · rename_i a b
    split at h
    · rename_i l hl
      unfold rowsOf at hl
      split at hl <;> first | (cases hl; done) | skip
      · cases hl; cases h; exact isS_ok r12
      · cases hl; cases h; exact isS_ok r21
      · cases hl; cases h; exact isS_ok r13
      · cases hl; cases h; exact isS_ok r31
    · cases h
  · cases h
end Tee
end
set_option maxRecDepth 1000000
set_option maxHeartbeats 0
noncomputable section
/-! What is heard: by the kernel, laying by laying, then put together. -/
namespace Tee
def kl (a b : Nat) : D := .lst [.int (.ofNat a), .int (.ofNat b)]
def chkAt (k : D) (i : Nat) (r l : Ly) : Bool :=
  isS (m_sure_laying [k, lyL l]) (lyT l) && (isS (m_row_in [lyT l]) (lyT r) && (isS (m_number_in [k, lyT r]) (.int (.ofNat i)) && (isS (m_row_at [k, .int (.ofNat i)]) (lyT r) && isS (m_laying_by_row [lyT r]) (lyT l))))
def chkAll (k : D) : Nat → List Ly → List Ly → Bool
  | _, [], [] => true
  | i, r :: rs, l :: ls => chkAt k i r l && chkAll k (i + 1) rs ls
  | _, _, _ => false
def isEx : Rx → Bool
  | .ex => true
  | _ => false
theorem isEx_ok {x : Rx} (h : isEx x = true) : x = .ex := by
  cases x <;> first | rfl | cases h
def chkDeck (a b : Nat) (rs ls : List Ly) : Bool :=
  isS (m_sure_floor [dk a b]) (dk a b) && (isS (m_sure_floor [kl a b]) (dk a b) && (isS (t_many_begun [dk a b, .tup []]) (.int (.ofNat ls.length)) && (isEx (x_row_at [dk a b, .int (.ofNat ls.length)]) && (Nat.blt 0 ls.length && chkAll (dk a b) 0 rs ls))))
theorem c11 : chkDeck 1 1 rows11 lays11 = true := by decide +kernel
theorem c12 : chkDeck 1 2 rows12 lays12 = true := by decide +kernel
theorem c21 : chkDeck 2 1 rows21 lays21 = true := by decide +kernel
theorem c13 : chkDeck 1 3 rows13 lays13 = true := by decide +kernel
theorem c31 : chkDeck 3 1 rows31 lays31 = true := by decide +kernel
/-- by hand -/
def one11 : D := .tup [pc 0 1 0, pc 1 3 3, pc 2 0 1, pc 3 2 2]
theorem hand_ok : isS (m_w_by_hand_right []) (.bl true) = true := by decide +kernel
end Tee
end
set_option maxRecDepth 100000
set_option maxHeartbeats 4000000
noncomputable section
/-! The table of what is heard says what the mirror says. -/
namespace Tee
/-! ### steps -/
theorem aN_go {s : Ss} : aN s = .go [] s := rfl
theorem aC_go {m : M} {r : L} {x : D} {l : List D} {s s1 s2 : Ss} (h1 : m s = .go x s1) (h2 : r s1 = .go l s2) : aC m r s = .go (x :: l) s2 := by
  unfold aC
  rw [h1]
  dsimp only
  rw [h2]
theorem call_go {f : List D → Option D} {a : L} {l : List D} {d : D} {s s1 : Ss} (h1 : a s = .go l s1) (h2 : f l = some d) : eCall f a s = .go d s1 := by
  unfold eCall
  rw [h1]
  dsimp only
  rw [h2]
theorem set_nx {i : Nat} {a : M} {d : D} {s s1 : Ss} (h : a s = .go d s1) : sSet i a s = .nx (sets s1 i (.val d)) := by
  unfold sSet
  rw [h]
theorem q_nx {a b : B} {s s1 : Ss} (h : a s = .nx s1) : sQ a b s = b s1 := by
  unfold sQ
  rw [h]
theorem ret_rt {a : M} {d : D} {s s1 : Ss} (h : a s = .go d s1) : sRet a s = .rt d := by
  unfold sRet
  rw [h]
theorem e2_go {f : D → D → Option D} {a b : M} {x y z : D} {s s1 s2 : Ss} (h1 : a s = .go x s1) (h2 : b s1 = .go y s2) (h3 : f x y = some z) : e2 f a b s = .go z s2 := by
  unfold e2
  rw [h1]
  dsimp only
  rw [h2]
  dsimp only
  rw [h3]
theorem if_t {c : M} {a b : B} {s s1 : Ss} (h : c s = .go (.bl true) s1) : sIf c a b s = a s1 := by
  unfold sIf
  rw [h]
theorem if_f {c : M} {a b : B} {s s1 : Ss} (h : c s = .go (.bl false) s1) : sIf c a b s = b s1 := by
  unfold sIf
  rw [h]
theorem oint_some (i : Int) : oint i = some (.int i) := by
  cases i with
  | ofNat n => cases n <;> rfl
  | negSucc n => cases n <;> rfl
theorem runF_of {k n : Nat} {b : B} {xs : List D} {d : D} (hk : Nat.beq xs.length k = true) (h : b (pad n xs) = .rt d) : runF k n b xs = some d := by
  unfold runF
  rw [hk, h]
theorem runX_of {k n : Nat} {b : B} {xs : List D} {d : D} (hk : Nat.beq xs.length k = true) (h : b (pad n xs) = .rt d) : runX k n b xs = .rt d := by
  unfold runX
  rw [hk, h]
theorem runX_ex {k n : Nat} {b : B} {xs : List D} (hk : Nat.beq xs.length k = true) (h : b (pad n xs) = .ex) : runX k n b xs = .ex := by
  unfold runX
  rw [hk, h]
theorem runF_X {k n : Nat} {b : B} {xs : List D} {d : D} (h : runF k n b xs = some d) : runX k n b xs = .rt d := by
  unfold runF at h
  unfold runX
  split at h
  · rename_i hk
    split at h
    · rename_i d' hb
      rw [hb]
      cases h
      rfl
    · rename_i s' hb
      rw [hb]
      cases h
      rfl
    · cases h
  · cases h
def nxtR : Rx → Rx
  | .rt d => match m_laying_by_row [d] with
    | some z => .rt z
    | none => .no
  | .ex => .ex
  | .no => .no
/-! ### each question -/
section
variable {f k l t r z : D} {i : Nat}
theorem first_ev (h1 : m_sure_floor [f] = some k) (h2 : m_row_at [k, .int (.ofNat 0)] = some r) (h3 : m_laying_by_row [r] = some z) : m_first_laying [f] = some z :=
  runF_of rfl (ret_rt (call_go (aC_go (call_go (aC_go (call_go (aC_go rfl aN_go) h1) (aC_go rfl aN_go)) h2) aN_go) h3))
theorem last_ev (h1 : m_sure_floor [f] = some k) (h0 : t_many_begun [k, .tup []] = some (.int (.ofNat (i + 1)))) (h2 : m_row_at [k, .int (.ofNat i)] = some r) (h3 : m_laying_by_row [r] = some z) : m_last_laying [f] = some z := by
  have hs : oSub (.int (.ofNat (i + 1))) (.int 1) = some (.int (.ofNat i)) := by
    show oint (Int.ofNat (i + 1) - 1) = _
    rw [oint_some, show Int.ofNat (i + 1) - 1 = Int.ofNat i by simp]
  refine runF_of rfl ?_
  refine (q_nx (set_nx (call_go (aC_go rfl aN_go) h1))).trans ?_
  exact ret_rt (call_go (aC_go (call_go (aC_go rfl (aC_go (e2_go (call_go (aC_go rfl (aC_go rfl aN_go)) h0) rfl hs) aN_go)) h2) aN_go) h3)
theorem next_ev (h1 : m_sure_floor [f] = some k) (h2 : m_sure_laying [k, l] = some t) (h3 : m_row_in [t] = some r) (h4 : m_number_in [k, r] = some (.int (.ofNat i))) {q : Rx} (h5 : x_row_at [k, .int (.ofNat (i + 1))] = q) :
    x_next_laying [f, l] = nxtR q := by
  have hs : oAdd (.int (.ofNat i)) (.int 1) = some (.int (.ofNat (i + 1))) := by
    show oint (Int.ofNat i + 1) = _
    rw [oint_some]
    rfl
  have u1 : b_next_laying (pad 4 [f, l]) = sRetX m_laying_by_row x_row_at (aC (eV 2) (aC (e2 oAdd (eCall m_number_in (aC (eV 2) (aC (eV 3) aN))) (eC (.int 1))) aN)) [.val f, .val l, .val k, .val r] := by
    refine (q_nx (set_nx (call_go (aC_go rfl aN_go) h1))).trans ?_
    exact q_nx (set_nx (call_go (aC_go (call_go (aC_go rfl (aC_go rfl aN_go)) h2) aN_go) h3))
  have u2 : aC (eV 2) (aC (e2 oAdd (eCall m_number_in (aC (eV 2) (aC (eV 3) aN))) (eC (.int 1))) aN) [.val f, .val l, .val k, .val r] = .go [k, .int (.ofNat (i + 1))] [.val f, .val l, .val k, .val r] :=
    aC_go rfl (aC_go (e2_go (call_go (aC_go rfl (aC_go rfl aN_go)) h4) rfl hs) aN_go)
  unfold x_next_laying runX
  rw [show Nat.beq [f, l].length 2 = true from rfl]
  dsimp only
  rw [u1]
  unfold sRetX
  rw [u2]
  dsimp only
  rw [h5]
  cases q with
  | no => rfl
  | ex => rfl
  | rt d =>
    unfold nxtR
    dsimp only
    cases m_laying_by_row [d] <;> rfl
theorem ahead_st (h1 : m_sure_floor [f] = some k) (h2 : m_sure_laying [k, l] = some t) (h3 : m_row_in [t] = some r) (h4 : m_number_in [k, r] = some (.int (.ofNat i))) : b_laying_ahead (pad 4 [f, l]) = sQ (sIf (e2 oEq (eV 3) (eC (.int 0))) sEx sP) (sRet (eCall m_laying_by_row (aC (eCall m_row_at (aC (eV 2) (aC (e2 oSub (eV 3) (eC (.int 1))) aN))) aN))) [.val f, .val l, .val k, .val (.int (.ofNat i))] := by
  refine (q_nx (set_nx (call_go (aC_go rfl aN_go) h1))).trans ?_
  exact q_nx (set_nx (call_go (aC_go rfl (aC_go (call_go (aC_go (call_go (aC_go rfl (aC_go rfl aN_go)) h2) aN_go) h3) aN_go)) h4))
theorem ahead_ev0 (h1 : m_sure_floor [f] = some k) (h2 : m_sure_laying [k, l] = some t) (h3 : m_row_in [t] = some r) (h4 : m_number_in [k, r] = some (.int (.ofNat 0))) : x_laying_ahead [f, l] = .ex :=
  runX_ex rfl ((ahead_st h1 h2 h3 h4).trans rfl)
theorem ahead_evS (h1 : m_sure_floor [f] = some k) (h2 : m_sure_laying [k, l] = some t) (h3 : m_row_in [t] = some r) (h4 : m_number_in [k, r] = some (.int (.ofNat (i + 1)))) {d : D} (h5 : m_row_at [k, .int (.ofNat i)] = some d) (h6 : m_laying_by_row [d] = some z) : x_laying_ahead [f, l] = .rt z := by
  have hs : oSub (.int (.ofNat (i + 1))) (.int 1) = some (.int (.ofNat i)) := by
    show oint (Int.ofNat (i + 1) - 1) = _
    rw [oint_some, show Int.ofNat (i + 1) - 1 = Int.ofNat i by simp]
  have u2 : sIf (e2 oEq (eV 3) (eC (.int 0))) sEx sP [.val f, .val l, .val k, .val (.int (.ofNat (i + 1)))] = .nx [.val f, .val l, .val k, .val (.int (.ofNat (i + 1)))] := rfl
  refine runX_of rfl ((ahead_st h1 h2 h3 h4).trans ?_)
  rw [q_nx u2]
  exact ret_rt (call_go (aC_go (call_go (aC_go rfl (aC_go (e2_go rfl rfl hs) aN_go)) h5) aN_go) h6)
theorem heard_end {x : B} {S : Ss} {d : D} (h : x S = .rt d) {z : D} : sTry x z S = .rt d := by
  unfold sTry
  rw [h]
theorem heard_ex {x : B} {S : Ss} (h : x S = .ex) {z : D} : sTry x z S = .rt z := by
  unfold sTry
  rw [h]
theorem heard0 (h : m_first_laying [f] = some z) : m_w_heard [.int (.ofNat 0), f, l] = some z := by
  refine runF_of rfl (heard_end ?_)
  have u1 : sRetC 4 xA (e2 oIx (eLst (aC (eC (.fn 2)) (aC (eC (.fn 3)) aN))) (eV 0)) (aC (eV 1) aN) [.val (.int (.ofNat 0)), .val f, .val l, .no] = .rt z := by
    show (match (match m_first_laying [f] with | some d => Rx.rt d | none => .no) with | .rt d => Sr.rt d | .ex => .ex | .no => .no) = .rt z
    rw [h]
  have uc : e2 oLt (eV 0) (eC (.int 2)) [.val (.int (.ofNat 0)), .val f, .val l, .no] = .go (.bl true) [.val (.int (.ofNat 0)), .val f, .val l, .no] := rfl
  have u2 : sIf (e2 oLt (eV 0) (eC (.int 2))) (sRetC 4 xA (e2 oIx (eLst (aC (eC (.fn 2)) (aC (eC (.fn 3)) aN))) (eV 0)) (aC (eV 1) aN)) sP [.val (.int (.ofNat 0)), .val f, .val l, .no] = .rt z := (if_t uc).trans u1
  unfold sQ
  rw [show pad 4 [.int (.ofNat 0), f, l] = [.val (.int (.ofNat 0)), .val f, .val l, .no] from rfl, u2]
theorem heard1 (h : m_last_laying [f] = some z) : m_w_heard [.int (.ofNat 1), f, l] = some z := by
  refine runF_of rfl (heard_end ?_)
  have u1 : sRetC 4 xA (e2 oIx (eLst (aC (eC (.fn 2)) (aC (eC (.fn 3)) aN))) (eV 0)) (aC (eV 1) aN) [.val (.int (.ofNat 1)), .val f, .val l, .no] = .rt z := by
    show (match (match m_last_laying [f] with | some d => Rx.rt d | none => .no) with | .rt d => Sr.rt d | .ex => .ex | .no => .no) = .rt z
    rw [h]
  have uc : e2 oLt (eV 0) (eC (.int 2)) [.val (.int (.ofNat 1)), .val f, .val l, .no] = .go (.bl true) [.val (.int (.ofNat 1)), .val f, .val l, .no] := rfl
  have u2 : sIf (e2 oLt (eV 0) (eC (.int 2))) (sRetC 4 xA (e2 oIx (eLst (aC (eC (.fn 2)) (aC (eC (.fn 3)) aN))) (eV 0)) (aC (eV 1) aN)) sP [.val (.int (.ofNat 1)), .val f, .val l, .no] = .rt z := (if_t uc).trans u1
  unfold sQ
  rw [show pad 4 [.int (.ofNat 1), f, l] = [.val (.int (.ofNat 1)), .val f, .val l, .no] from rfl, u2]
def rxD : Rx → Option D
  | .rt d => some d
  | .ex => some dCN
  | .no => none
def rxS : Rx → Sr
  | .rt d => .rt d
  | .ex => .ex
  | .no => .no
theorem heardB {j : Nat} {q : Rx} (hj : j = 2 ∨ j = 3) (h : xB (j + 2) [f, l] = q) {d : D} (hq : rxD q = some d) : m_w_heard [.int (.ofNat j), f, l] = some d := by
  have u0 : sIf (e2 oLt (eV 0) (eC (.int 2))) (sRetC 4 xA (e2 oIx (eLst (aC (eC (.fn 2)) (aC (eC (.fn 3)) aN))) (eV 0)) (aC (eV 1) aN)) sP [.val (.int (.ofNat j)), .val f, .val l, .no] = .nx [.val (.int (.ofNat j)), .val f, .val l, .no] := by
    rcases hj with rfl | rfl <;> rfl
  have u1 : sRetC 4 xB (e2 oIx (eLst (aC (eC (.fn 4)) (aC (eC (.fn 5)) aN))) (e2 oSub (eV 0) (eC (.int 2)))) (aC (eV 1) (aC (eV 2) aN)) [.val (.int (.ofNat j)), .val f, .val l, .no] = rxS (xB (j + 2) [f, l]) := by
    rcases hj with rfl | rfl <;> rfl
  rw [h] at u1
  have u2 := (q_nx (b := sRetC 4 xB (e2 oIx (eLst (aC (eC (.fn 4)) (aC (eC (.fn 5)) aN))) (e2 oSub (eV 0) (eC (.int 2)))) (aC (eV 1) (aC (eV 2) aN))) u0).trans u1
  refine runF_of rfl ?_
  cases q with
  | no => cases hq
  | ex =>
    cases hq
    exact heard_ex u2
  | rt d' =>
    cases hq
    exact heard_end u2
end
/-! ### the table -/
structure LyAt (k : D) (i : Nat) (r l : Ly) : Prop where
  h1 : m_sure_laying [k, lyL l] = some (lyT l)
  h2 : m_row_in [lyT l] = some (lyT r)
  h3 : m_number_in [k, lyT r] = some (.int (.ofNat i))
  h4 : m_row_at [k, .int (.ofNat i)] = some (lyT r)
  h5 : m_laying_by_row [lyT r] = some (lyT l)
theorem chkAt_ok {k : D} {i : Nat} {r l : Ly} (h : chkAt k i r l = true) : LyAt k i r l := by
  unfold chkAt at h
  rw [Bool.and_eq_true, Bool.and_eq_true, Bool.and_eq_true, Bool.and_eq_true] at h
  exact ⟨isS_ok h.1, isS_ok h.2.1, isS_ok h.2.2.1, isS_ok h.2.2.2.1, isS_ok h.2.2.2.2⟩
theorem chkAll_at {k : D} : ∀ (rs ls : List Ly) (i j : Nat) (l : Ly), chkAll k i rs ls = true → ls[j]? = some l → ∃ r, LyAt k (i + j) r l
  | [], [], _, _, _, _, h => by simp at h
  | [], _ :: _, _, _, _, h, _ => by cases h
  | _ :: _, [], _, _, _, h, _ => by cases h
  | r :: rs, l0 :: ls, i, 0, l, h, q => by
    have h2 : (chkAt k i r l0 && chkAll k (i + 1) rs ls) = true := h
    rw [Bool.and_eq_true] at h2
    have e : l0 = l := by simpa using q
    exact ⟨r, e ▸ chkAt_ok h2.1⟩
  | r :: rs, l0 :: ls, i, j + 1, l, h, q => by
    have h2 : (chkAt k i r l0 && chkAll k (i + 1) rs ls) = true := h
    rw [Bool.and_eq_true] at h2
    obtain ⟨r', z⟩ := chkAll_at rs ls (i + 1) j l h2.2 (by simpa using q)
    rw [show i + 1 + j = i + (j + 1) by omega] at z
    exact ⟨r', z⟩
structure DeckOk (a b : Nat) (ls : List Ly) : Prop where
  f1 : m_sure_floor [dk a b] = some (dk a b)
  f2 : m_sure_floor [kl a b] = some (dk a b)
  many : t_many_begun [dk a b, .tup []] = some (.int (.ofNat ls.length))
  ex : x_row_at [dk a b, .int (.ofNat ls.length)] = .ex
  pos : 0 < ls.length
  at_ : ∀ j l, ls[j]? = some l → ∃ r, LyAt (dk a b) j r l
theorem chkDeck_ok {a b : Nat} {rs ls : List Ly} (h : chkDeck a b rs ls = true) : DeckOk a b ls := by
  unfold chkDeck at h
  rw [Bool.and_eq_true, Bool.and_eq_true, Bool.and_eq_true, Bool.and_eq_true, Bool.and_eq_true] at h
  refine ⟨isS_ok h.1, isS_ok h.2.1, isS_ok h.2.2.1, isEx_ok h.2.2.2.1, ?_, fun j l hj => ?_⟩
  · have := h.2.2.2.2.1
    exact Nat.lt_of_lt_of_le (Nat.lt_succ_self 0) (Nat.le_of_ble_eq_true this)
  · obtain ⟨r, z⟩ := chkAll_at rs ls 0 j l h.2.2.2.2.2 hj
    rw [Nat.zero_add] at z
    exact ⟨r, z⟩
theorem lays_ok {a b : Nat} {ls : List Ly} (h : laysOf a b = some ls) : DeckOk a b ls := by
  unfold laysOf at h
  split at h <;> first | (cases h; done) | skip
  · cases h; exact chkDeck_ok c11
  · cases h; exact chkDeck_ok c12
  · cases h; exact chkDeck_ok c21
  · cases h; exact chkDeck_ok c13
  · cases h; exact chkDeck_ok c31
theorem isLs_ok : ∀ (ps : List D) (r : Ly), isLs ps r = true → ps = r.map pl3
  | [], [], _ => rfl
  | [], _ :: _, h => by simp [isLs] at h
  | p :: ps, [], h => by
    unfold isLs at h
    split at h <;> first | (cases h; done) | skip
    all_goals simp_all
  | p :: ps, q :: qs, h => by
    unfold isLs at h
    split at h
    · rename_i he _
      cases he
    · rename_i a b c ps' q' qs' he hq
      cases he
      cases hq
      simp only [Bool.and_eq_true] at h
      obtain ⟨⟨h1, h2, h3⟩, h4⟩ := h
      rw [isLs_ok _ _ h4, Nat.eq_of_beq_eq_true h1, Nat.eq_of_beq_eq_true h2, Nat.eq_of_beq_eq_true h3]
      rfl
    · cases h
theorem isLy_ok {l : D} {r : Ly} (h : isLy l r = true) : l = lyL r := by
  unfold isLy at h
  split at h
  · rw [isLs_ok _ _ h]
    rfl
  · cases h
theorem nextOf_ok {l d : D} : ∀ (ls : List Ly), nextOf l ls = some d → ∃ j r, ls[j]? = some r ∧ l = lyL r ∧ d = orCN ls[j + 1]?
  | [], h => by cases h
  | r :: rest, h => by
    have h2 : (match isLy l r with
      | true => some (orCN rest.head?)
      | false => nextOf l rest) = some d := h
    split at h2
    · rename_i hl
      refine ⟨0, r, rfl, isLy_ok hl, ?_⟩
      cases h2
      cases rest <;> rfl
    · obtain ⟨j, r', z1, z2, z3⟩ := nextOf_ok rest h2
      exact ⟨j + 1, r', by simpa using z1, z2, by simpa using z3⟩
theorem prevOf_ok {l d : D} : ∀ (ls : List Ly) (p : Option Ly), prevOf l p ls = some d → ∃ j r, ls[j]? = some r ∧ l = lyL r ∧ d = orCN (match j with | 0 => p | i + 1 => ls[i]?)
  | [], _, h => by cases h
  | r :: rest, p, h => by
    have h2 : (match isLy l r with
      | true => some (orCN p)
      | false => prevOf l (some r) rest) = some d := h
    split at h2
    · rename_i hl
      cases h2
      exact ⟨0, r, rfl, isLy_ok hl, rfl⟩
    · obtain ⟨j, r', z1, z2, z3⟩ := prevOf_ok rest (some r) h2
      refine ⟨j + 1, r', by simpa using z1, z2, ?_⟩
      rw [z3]
      cases j <;> simp
theorem deckOf_ok {f : D} {p : Nat × Nat} (h : deckOf f = some p) : f = dk p.1 p.2 ∨ f = kl p.1 p.2 := by
  unfold deckOf at h
  split at h
  · cases h; exact .inl rfl
  · cases h; exact .inr rfl
  · cases h
theorem heardBy_ok {a b : Nat} {ls : List Ly} (hD : DeckOk a b ls) {f l d : D} (hf : m_sure_floor [f] = some (dk a b)) {door : Nat} (h : heardBy door l ls = some d) : m_w_heard [.int (.ofNat door), f, l] = some d := by
  unfold heardBy at h
  split at h
  · cases ls with
    | nil => cases h
    | cons l0 rest =>
      cases h
      obtain ⟨r, z⟩ := hD.at_ 0 l0 rfl
      exact heard0 (first_ev hf z.h4 z.h5)
  · obtain ⟨n, hn⟩ : ∃ n, ls.length = n + 1 := ⟨ls.length - 1, by have := hD.pos; omega⟩
    rw [List.getLast?_eq_getElem?, hn, Nat.add_sub_cancel] at h
    cases hl : ls[n]? with
    | none =>
      rw [hl] at h
      cases h
    | some l0 =>
      rw [hl] at h
      cases h
      obtain ⟨r, z⟩ := hD.at_ n l0 hl
      have hm := hD.many
      rw [hn] at hm
      exact heard1 (last_ev hf hm z.h4 z.h5)
  · obtain ⟨j, r0, z1, rfl, rfl⟩ := nextOf_ok ls h
    obtain ⟨r, z⟩ := hD.at_ j r0 z1
    cases hn : ls[j + 1]? with
    | none =>
      have hj : j < ls.length := (List.getElem?_eq_some_iff.mp z1).1
      have hl : ls.length = j + 1 := by
        have := List.getElem?_eq_none_iff.mp hn
        omega
      have hx := hD.ex
      rw [hl] at hx
      exact heardB (.inl rfl) (next_ev hf z.h1 z.h2 z.h3 hx) rfl
    | some r1 =>
      obtain ⟨r', z'⟩ := hD.at_ (j + 1) r1 hn
      have hx : x_row_at [dk a b, .int (.ofNat (j + 1))] = .rt (lyT r') := runF_X z'.h4
      refine heardB (.inl rfl) (next_ev hf z.h1 z.h2 z.h3 hx) ?_
      unfold nxtR
      dsimp only
      rw [z'.h5]
      rfl
  · obtain ⟨j, r0, z1, rfl, rfl⟩ := prevOf_ok ls none h
    obtain ⟨r, z⟩ := hD.at_ j r0 z1
    cases j with
    | zero => exact heardB (.inr rfl) (ahead_ev0 hf z.h1 z.h2 z.h3) rfl
    | succ i =>
      have hi : i < ls.length := by
        have := (List.getElem?_eq_some_iff.mp z1).1
        omega
      obtain ⟨r', z'⟩ := hD.at_ i (ls[i]) (by simp)
      refine heardB (.inr rfl) (ahead_evS hf z.h1 z.h2 z.h3 z'.h4 z'.h5) ?_
      dsimp only
      rw [List.getElem?_eq_getElem hi]
      rfl
  · cases h
theorem t_heard_ok (ds : List D) (d : D) (h : t_heard ds = some d) : m_w_heard ds = some d := by
  unfold t_heard at h
  split at h
  · rename_i door f l
    split at h
    · rename_i p hp
      split at h
      · rename_i ls hls
        have hD := lays_ok hls
        refine heardBy_ok hD ?_ h
        rcases deckOf_ok hp with rfl | rfl
        · exact hD.f1
        · exact hD.f2
      · cases h
    · cases h
  · cases h
end Tee
end
set_option maxRecDepth 100000
set_option maxHeartbeats 4000000
namespace Tee
open PySem PySem.Spec PyProof.Rows L2

/-! ### what stands for a tree -/
def Sym.str : Sym → PySem.Str
  | .cannot => "can not"
  | .cut => "cut"
  | .dot => "dot"
  | .inner => "inner"
  | .tied => "tied"
-- the hash of a key
mutual
def hashD (w : World) : D → Int
  | .int i => hashInt i
  | .sym s => hashStr w s.str
  | .tup l => reduceHash (Builtin.Tuple.tupleHashOf (hashL w l))
  | .non => 0
  | .bl _ => 0
  | .fn _ => 0
  | .lst _ => 0
  | .dct _ _ => 0
  | .ins _ => 0
def hashL (w : World) : List D → List Int
  | [] => []
  | d :: l => hashD w d :: hashL w l
end
/-- a row of a dict: hash, the key's place, the value -/
abbrev Rw3 := Int × Addr × V
def rawEntry (e : Rw3) (u : Value) : DictEntry := ⟨e.1, .ref e.2.1, u⟩
/-- the dict at a has these rows -/
def DicAt (a : Addr) (es : List Rw3) (h : Heap) : Prop :=
  (a == sysModules) = false ∧ es.length ≤ sizeLine ∧ ∃ us : List Value, Vals (es.map (·.2.2)) us ∧ ∃ o ds ep, h.get? a = some o ∧ o.ExactDict ∧ o.data = .dict ds ep ∧ ds.toList = List.zipWith rawEntry es us
def dicO (a : Addr) (es : List Rw3) : HO := .ext (DicAt a es)
theorem dicAt_keep {a : Addr} {es : List Rw3} {h h' : Heap} (x : DicAt a es h) (k : ∀ o, h.get? a = some o → h'.get? a = some o) : DicAt a es h' := by
  obtain ⟨p, q, us, r, o, ds, ep, e, z⟩ := x
  exact ⟨p, q, us, r, o, ds, ep, k _ e, z⟩
theorem dicO_ok {P : Program} {w : World} {H : Hp} {h : Heap} {a : Addr} {es : List Rw3} (x : DicAt a es h) : ObjOk P w H h a (dicO a es) := by
  refine ⟨x, ?_, fun h1 h2 y k => dicAt_keep y k⟩
  obtain ⟨_, _, _, _, o, _, _, e, _⟩ := x
  exact ⟨o, e⟩

/-- what a body's run stands over: the written part, the world, the defs' places, the class Rules, the frozen things and the heap at the entry -/
structure Bd where
  K : PySem.W.Frag
  w : World
  fa : Nat → Addr
  CR : Addr
  F0 : Hp
  H0 : Hp
def fields4 : List PySem.Str := ["signs", "known", "least", "only"]
mutual
def Rep (b : Bd) (F : Hp) : D → V → Prop
  | .non, v => v = .non
  | .bl x, v => v = .bl x
  | .int i, v => v = .int i
  | .sym s, v => v = .str s.str
  | .fn k, v => v = .ref (b.fa k)
  | .tup l, v => ∃ a vs, v = .ref a ∧ SqT b.K F a vs ∧ RepL b F l vs
  | .lst l, v => ∃ a vs, v = .ref a ∧ F a = some (.lst vs) ∧ RepL b F l vs
  | .dct ks us, v => ∃ a o es, v = .ref a ∧ F a = some (.frz o (dicO a es)) ∧ (RepL b F ks (es.map fun e => V.ref e.2.1) ∧ es.map (·.1) = hashL b.w ks ∧ ks.all (keyD 7) = true ∧ ks.Nodup) ∧ RepL b F us (es.map (·.2.2))
  | .ins l, v => ∃ a dx fs, v = .ref a ∧ F a = some (.ins b.CR dx fs) ∧ F dx = some (.own a) ∧ fs.map (·.1) = fields4 ∧ RepL b F l (fs.map (·.2))
def RepL (b : Bd) (F : Hp) : List D → List V → Prop
  | [], vs => vs = []
  | d :: l, vs => ∃ v r, vs = v :: r ∧ Rep b F d v ∧ RepL b F l r
end
/-- the keys of a dict's rows -/
def KeyR (b : Bd) (F : Hp) (ks : List D) (es : List Rw3) : Prop :=
  RepL b F ks (es.map fun e => V.ref e.2.1) ∧ es.map (·.1) = hashL b.w ks ∧ ks.all (keyD 7) = true ∧ ks.Nodup

theorem sqT_mono {K : PySem.W.Frag} {F F' : Hp} {a : Addr} {vs : List V} (s : Same F F') (h : SqT K F a vs) : SqT K F' a vs := by
  rcases h with (h | ⟨o, h⟩) | h
  · exact .inl (.inl (s _ _ h))
  · exact .inl (.inr ⟨o, s _ _ h⟩)
  · exact .inr h
mutual
theorem Rep.mono {b : Bd} {F F' : Hp} (s : Same F F') : ∀ (d : D) {v : V}, Rep b F d v → Rep b F' d v
  | .non, _, h => by rw [Rep] at h ⊢; exact h
  | .bl _, _, h => by rw [Rep] at h ⊢; exact h
  | .int _, _, h => by rw [Rep] at h ⊢; exact h
  | .sym _, _, h => by rw [Rep] at h ⊢; exact h
  | .fn _, _, h => by rw [Rep] at h ⊢; exact h
  | .tup l, _, h => by
    rw [Rep] at h ⊢
    obtain ⟨a, vs, e, q, r⟩ := h
    exact ⟨a, vs, e, sqT_mono s q, RepL.mono s l r⟩
  | .lst l, _, h => by
    rw [Rep] at h ⊢
    obtain ⟨a, vs, e, q, r⟩ := h
    exact ⟨a, vs, e, s _ _ q, RepL.mono s l r⟩
  | .dct ks us, _, h => by
    rw [Rep] at h ⊢
    obtain ⟨a, o, es, e, q, ⟨r1, r2⟩, r3⟩ := h
    exact ⟨a, o, es, e, s _ _ q, ⟨RepL.mono s ks r1, r2⟩, RepL.mono s us r3⟩
  | .ins l, _, h => by
    rw [Rep] at h ⊢
    obtain ⟨a, dx, fs, e, q, r1, r2, r3⟩ := h
    exact ⟨a, dx, fs, e, s _ _ q, s _ _ r1, r2, RepL.mono s l r3⟩
theorem RepL.mono {b : Bd} {F F' : Hp} (s : Same F F') : ∀ (l : List D) {vs : List V}, RepL b F l vs → RepL b F' l vs
  | [], _, h => by rw [RepL] at h ⊢; exact h
  | d :: l, _, h => by
    rw [RepL] at h ⊢
    obtain ⟨v, r, e, h1, h2⟩ := h
    exact ⟨v, r, e, Rep.mono s d h1, RepL.mono s l h2⟩
end
theorem KeyR.mono {b : Bd} {F F' : Hp} (s : Same F F') {ks : List D} {es : List Rw3} (h : KeyR b F ks es) : KeyR b F' ks es := ⟨RepL.mono s ks h.1, h.2⟩

/-! ### lists of them -/
section
variable {b : Bd} {F : Hp}
theorem RepL.nil' : RepL b F [] [] := by rw [RepL]
theorem RepL.cons' {d : D} {l : List D} {v : V} {vs : List V} (h : Rep b F d v) (t : RepL b F l vs) : RepL b F (d :: l) (v :: vs) := by
  rw [RepL]
  exact ⟨v, vs, rfl, h, t⟩
theorem RepL.uncons {d : D} {l : List D} {vs : List V} (h : RepL b F (d :: l) vs) : ∃ v r, vs = v :: r ∧ Rep b F d v ∧ RepL b F l r := by
  rw [RepL] at h
  exact h
theorem RepL.unnil {vs : List V} (h : RepL b F [] vs) : vs = [] := by
  rw [RepL] at h
  exact h
theorem RepL.len : ∀ {l : List D} {vs : List V}, RepL b F l vs → l.length = vs.length
  | [], _, h => by
    rw [h.unnil]
    rfl
  | d :: l, _, h => by
    obtain ⟨v, r, rfl, _, t⟩ := h.uncons
    rw [List.length_cons, List.length_cons, RepL.len t]
theorem RepL.app : ∀ {l m : List D} {vs us : List V}, RepL b F l vs → RepL b F m us → RepL b F (l ++ m) (vs ++ us)
  | [], _, _, _, h, q => by
    rw [h.unnil]
    exact q
  | d :: l, _, _, _, h, q => by
    obtain ⟨v, r, rfl, h1, t⟩ := h.uncons
    exact RepL.cons' h1 (RepL.app t q)
theorem RepL.get : ∀ {l : List D} {vs : List V} {i : Nat} {d : D}, RepL b F l vs → l[i]? = some d → ∃ v, vs[i]? = some v ∧ Rep b F d v
  | [], _, _, _, _, e => by simp at e
  | d :: l, _, 0, x, h, e => by
    obtain ⟨v, r, rfl, h1, t⟩ := h.uncons
    have e' : d = x := by simpa using e
    exact ⟨v, by simp, e' ▸ h1⟩
  | d :: l, _, i + 1, x, h, e => by
    obtain ⟨v, r, rfl, h1, t⟩ := h.uncons
    obtain ⟨u, e1, e2⟩ := RepL.get (i := i) (d := x) t (by simpa using e)
    exact ⟨u, by simpa using e1, e2⟩
theorem RepL.take : ∀ {l : List D} {vs : List V} (n : Nat), RepL b F l vs → RepL b F (l.take n) (vs.take n)
  | _, _, 0, _ => by simpa using RepL.nil'
  | [], _, n + 1, h => by
    rw [h.unnil]
    simpa using RepL.nil'
  | d :: l, _, n + 1, h => by
    obtain ⟨v, r, rfl, h1, t⟩ := h.uncons
    exact RepL.cons' h1 (RepL.take n t)
theorem RepL.drop : ∀ {l : List D} {vs : List V} (n : Nat), RepL b F l vs → RepL b F (l.drop n) (vs.drop n)
  | _, _, 0, h => by simpa using h
  | [], _, n + 1, h => by
    rw [h.unnil]
    simpa using RepL.nil'
  | d :: l, _, n + 1, h => by
    obtain ⟨v, r, rfl, h1, t⟩ := h.uncons
    exact RepL.drop n t
theorem RepL.set : ∀ {l : List D} {vs : List V} {d : D} {v : V} (n : Nat), RepL b F l vs → Rep b F d v → RepL b F (l.set n d) (vs.set n v)
  | [], _, _, _, _, h, _ => by
    rw [h.unnil]
    simpa using RepL.nil'
  | d :: l, _, _, _, 0, h, q => by
    obtain ⟨v, r, rfl, h1, t⟩ := h.uncons
    exact RepL.cons' q t
  | d :: l, _, _, _, n + 1, h, q => by
    obtain ⟨v, r, rfl, h1, t⟩ := h.uncons
    exact RepL.cons' h1 (RepL.set n t q)
end

/-! ### slots -/
def SlOk (b : Bd) (F H : Hp) : Sl → Option (Option V) → Prop
  | .no, _ => True
  | .val d, x => ∃ v, x = some (some v) ∧ Rep b F d v
  | .lv l, x => ∃ a vs, x = some (some (.ref a)) ∧ H a = some (.lst vs) ∧ F a = none ∧ b.H0 a = none ∧ RepL b F l vs
  | .dv ks us, x => ∃ a es, x = some (some (.ref a)) ∧ H a = some (dicO a es) ∧ F a = none ∧ b.H0 a = none ∧ KeyR b F ks es ∧ RepL b F us (es.map (·.2.2))
  | .iv l, x => ∃ a dx fs, x = some (some (.ref a)) ∧ H a = some (.ins b.CR dx fs) ∧ H dx = some (.own a) ∧ F a = none ∧ b.H0 a = none ∧ F dx = none ∧ b.H0 dx = none ∧ fs.map (·.1) = fields4 ∧ RepL b F l (fs.map (·.2))
abbrev Sg := L2.St
/-- the slot i holds what stands at a, alone -/
def LiveAt (S : Ss) (σ : Sg) (i : Nat) (a : Addr) : Prop := isLive (gets S i) = true ∧ σ[i]? = some (some (.ref a))
/-- things under way: places and what stands there -/
abbrev Gh := List (Addr × HO)
/-- the heap's side alone -/
structure Base (b : Bd) (F : Hp) (G : Gh) (H : Hp) : Prop where
  sameF : Same F H
  sameH : Same b.H0 H
  mono : Same b.F0 F
  new : ∀ a, F a ≠ none → b.F0 a ≠ none ∨ b.H0 a = none
  gh : ∀ p ∈ G, H p.1 = some p.2 ∧ F p.1 = none ∧ b.H0 p.1 = none ∧ ∀ a, p.2 ≠ .own a
structure Rel (b : Bd) (F : Hp) (G : Gh) (S : Ss) (σ : Sg) (H : Hp) : Prop where
  base : Base b F G H
  len : S.length = σ.length
  slots : ∀ i, SlOk b F H (gets S i) σ[i]?
  apart : ∀ i j a, LiveAt S σ i a → LiveAt S σ j a → i = j
  apartG : ∀ p ∈ G, ∀ i, ¬ LiveAt S σ i p.1

/-! ### readings -/
def tE (b : Bd) (m : M) : TE := fun σ H Q => ∃ F G S d S', m S = .go d S' ∧ Rel b F G S σ H ∧
  ∀ F' v H', Same F F' → Rel b F' G S' σ H' → Rep b F' d v → Q v H'
def tA (b : Bd) (m : L) : TA := fun σ H Q => ∃ F G S l S', m S = .go l S' ∧ Rel b F G S σ H ∧
  ∀ F' vs H', Same F F' → Rel b F' G S' σ H' → RepL b F' l vs → Q vs H'
/-- a test: its value is a bool -/
def tT (b : Bd) (m : M) : TT := fun σ H Q => ∃ F G S c S', m S = .go (.bl c) S' ∧ Rel b F G S σ H ∧
  ∀ F' H', Same F F' → Rel b F' G S' σ H' → Q c H'
/-- what is to come behind a statement -/
def After (b : Bd) (W : Sg → Hp → Prop) (D : Ends) (F : Hp) (G : Gh) : Sr → Prop
  | .no => False
  | .nx S => ∀ F' σ' H', Same F F' → Rel b F' G S σ' H' → D.nx σ' H'
  | .bk S => ∀ F' σ' H', Same F F' → Rel b F' G S σ' H' → D.bk σ' H'
  | .ct S => ∀ F' σ' H', Same F F' → Rel b F' G S σ' H' → D.ct σ' H'
  | .rt d => ∀ F' v H', Same F F' → Base b F' G H' → Rep b F' d v → D.rt v H'
  | .ex => ∀ F' σ' H', Same F F' → Base b F' G H' → W σ' H'
def tS (b : Bd) (W : Sg → Hp → Prop) (m : B) : TS := fun D σ H => ∃ F G S, Rel b F G S σ H ∧ After b W D F G (m S)

section
variable {X : Cx}
theorem _root_.L2.PE.weak {e : Expr} {t t' : TE} (h : PE X e t) (k : ∀ σ H Q, t' σ H Q → t σ H Q) : PE X e t' := ⟨fun p s σ H Q I q => h.run p s σ H Q I (k _ _ _ q)⟩
theorem _root_.L2.PT.weak {e : Expr} {t t' : TT} (h : PT X e t) (k : ∀ σ H Q, t' σ H Q → t σ H Q) : PT X e t' := ⟨fun p s σ H Q I q => h.run p s σ H Q I (k _ _ _ q)⟩
theorem _root_.L2.PW.weak {e : Expr} {t t' : TT} (h : PW X e t) (k : ∀ σ H Q, t' σ H Q → t σ H Q) : PW X e t' := ⟨fun wh p s σ H Q I q => h.run wh p s σ H Q I (k _ _ _ q)⟩
theorem _root_.L2.PA.weak {es : List Expr} {t t' : TA} (h : PA X es t) (k : ∀ σ H Q, t' σ H Q → t σ H Q) : PA X es t' := ⟨fun po p s σ H Q I q => h.run po p s σ H Q I (k _ _ _ q)⟩
theorem _root_.L2.PS.weak {e : Stmt} {t t' : TS} (h : PS X e t) (k : ∀ D σ H, t' D σ H → t D σ H) : PS X e t' := ⟨fun p s σ H D I q => h.run p s σ H D I (k _ _ _ q)⟩
theorem _root_.L2.PSs.weak {e : List Stmt} {t t' : TS} (h : PSs X e t) (k : ∀ D σ H, t' D σ H → t D σ H) : PSs X e t' := ⟨fun p s σ H D I q => h.run p s σ H D I (k _ _ _ q)⟩
end
end Tee
set_option maxRecDepth 100000
set_option maxHeartbeats 4000000
namespace Tee
open PySem PySem.Spec PyProof.Rows L2

theorem len_sets : ∀ (S : Ss) (i : Nat) (x : Sl), (sets S i x).length = S.length
  | [], _, _ => rfl
  | _ :: _, 0, _ => rfl
  | _ :: r, n + 1, x => congrArg (· + 1) (len_sets r n x)
theorem gets_ne : ∀ (S : Ss) (i j : Nat) (x : Sl), i ≠ j → gets (sets S i x) j = gets S j
  | [], _, _, _, _ => rfl
  | _ :: _, 0, 0, _, h => absurd rfl h
  | _ :: _, 0, _ + 1, _, _ => rfl
  | _ :: _, _ + 1, 0, _, _ => rfl
  | _ :: r, i + 1, j + 1, x, h => gets_ne r i j x fun e => h (congrArg (· + 1) e)
theorem gets_same : ∀ (S : Ss) (i : Nat) (x : Sl), i < S.length → gets (sets S i x) i = x
  | [], _, _, h => absurd h (Nat.not_lt_zero _)
  | _ :: _, 0, _, _ => rfl
  | _ :: r, i + 1, x, h => gets_same r i x (Nat.lt_of_succ_lt_succ h)
theorem gets_out : ∀ (S : Ss) (i : Nat), ¬ i < S.length → gets S i = .no
  | [], _, _ => rfl
  | _ :: _, 0, h => absurd (Nat.succ_pos _) h
  | _ :: r, i + 1, h => gets_out r i fun q => h (Nat.succ_lt_succ q)
theorem same_upd' {H : Hp} {p : Addr} {o : HO} (h : H p = none) : Same H (upd H p o) := fun c u e => by
  rw [upd_ne (ne_of_none e h)]
  exact e
theorem sameNone {F H : Hp} (s : Same F H) {a : Addr} (h : H a = none) : F a = none := s.free h
theorem not_none {F : Hp} {a : Addr} {o : HO} (h : F a = some o) : F a ≠ none := fun z => by
  rw [h] at z
  cases z

section
variable {b : Bd} {F F' : Hp} {G : Gh} {S : Ss} {σ : Sg} {H H' : Hp}
theorem SlOk.grow (s : Same F F') (k : Same H H') (n : ∀ a, F' a ≠ none → F a ≠ none ∨ H a = none) : ∀ {x : Sl} {y : Option (Option V)}, SlOk b F H x y → SlOk b F' H' x y
  | .no, _, _ => True.intro
  | .val d, _, ⟨v, e, r⟩ => ⟨v, e, Rep.mono s d r⟩
  | .lv l, _, ⟨a, vs, e, h, f, z, r⟩ => ⟨a, vs, e, k _ _ h, Classical.byContradiction fun q => (n a q).elim (fun q => q f) (fun q => not_none h q), z, RepL.mono s l r⟩
  | .dv ks us, _, ⟨a, es, e, h, f, z, r1, r2⟩ => ⟨a, es, e, k _ _ h, Classical.byContradiction fun q => (n a q).elim (fun q => q f) (fun q => not_none h q), z, r1.mono s, RepL.mono s us r2⟩
  | .iv l, _, ⟨a, dx, fs, e, h, hd, f, z, f', z', r1, r2⟩ => ⟨a, dx, fs, e, k _ _ h, k _ _ hd, Classical.byContradiction fun q => (n a q).elim (fun q => q f) (fun q => not_none h q), z,
      Classical.byContradiction fun q => (n dx q).elim (fun q => q f') (fun q => not_none hd q), z', r1, RepL.mono s l r2⟩
theorem Base.grow (r : Base b F G H) (s : Same F F') (k : Same H H') (t : Same F' H') (n : ∀ a, F' a ≠ none → F a ≠ none ∨ H a = none) : Base b F' G H' where
  sameF := t
  sameH := r.sameH.trans k
  mono := r.mono.trans s
  new := fun a q => (n a q).elim (r.new a) fun z => .inr (r.sameH.free z)
  gh := fun p hp => by
    obtain ⟨h1, h2, h3, h4⟩ := r.gh p hp
    exact ⟨k _ _ h1, Classical.byContradiction fun q => (n p.1 q).elim (fun q => q h2) (fun q => not_none h1 q), h3, h4⟩
/-- the heap grows, more is frozen *)-/
theorem Rel.grow (r : Rel b F G S σ H) (s : Same F F') (k : Same H H') (t : Same F' H') (n : ∀ a, F' a ≠ none → F a ≠ none ∨ H a = none) : Rel b F' G S σ H' :=
  ⟨r.base.grow s k t n, r.len, fun i => (r.slots i).grow s k n, r.apart, r.apartG⟩
/-- a new frozen object -/
theorem Rel.alloc (r : Rel b F G S σ H) {p : Addr} {o : HO} (h : H p = none) : Rel b (upd F p o) G S σ (upd H p o) := by
  have hF : F p = none := sameNone r.base.sameF h
  refine r.grow (same_upd' hF) (same_upd' h) (fun a u e => ?_) fun a q => ?_
  · by_cases ha : a = p
    · subst ha
      rw [upd_same] at e ⊢
      exact e
    · rw [upd_ne ha] at e ⊢
      exact r.base.sameF _ _ e
  · by_cases ha : a = p
    · subst ha
      exact .inr h
    · rw [upd_ne ha] at q
      exact .inl q
theorem same_alloc {o : HO} {p : Addr} (r : Rel b F G S σ H) (h : H p = none) : Same F (upd F p o) := same_upd' (sameNone r.base.sameF h)
/-- a live thing's place -/
theorem SlOk.live {x : Sl} {y : Option (Option V)} (h : SlOk b F H x y) (l : isLive x = true) : ∃ a o, y = some (some (.ref a)) ∧ H a = some o ∧ F a = none ∧ b.H0 a = none := by
  cases x with
  | no => cases l
  | val d => cases l
  | lv l' =>
    obtain ⟨a, vs, e, h1, h2, h3, _⟩ := h
    exact ⟨a, _, e, h1, h2, h3⟩
  | dv ks us =>
    obtain ⟨a, es, e, h1, h2, h3, _⟩ := h
    exact ⟨a, _, e, h1, h2, h3⟩
  | iv l' =>
    obtain ⟨a, dx, fs, e, h1, _, h2, h3, _⟩ := h
    exact ⟨a, _, e, h1, h2, h3⟩
theorem liveAt_ne {S : Ss} {σ : Sg} {i j : Nat} {x : Sl} {v : Option V} {a : Addr} (h : i ≠ j) (l : LiveAt (sets S i x) (σ.set i v) j a) : LiveAt S σ j a := by
  obtain ⟨l1, l2⟩ := l
  rw [gets_ne _ _ _ _ h] at l1
  rw [List.getElem?_set_ne h] at l2
  exact ⟨l1, l2⟩
theorem liveAt_keep {S : Ss} {σ : Sg} {i j : Nat} {x : Sl} {a : Addr} (h : i ≠ j) (l : LiveAt (sets S i x) σ j a) : LiveAt S σ j a := by
  obtain ⟨l1, l2⟩ := l
  rw [gets_ne _ _ _ _ h] at l1
  exact ⟨l1, l2⟩
/-- a slot is stored: the general form -/
theorem Rel.put (r : Rel b F G S σ H) {i : Nat} {x : Sl} {v : V} (hx : i < S.length → SlOk b F H x (some (some v))) (ha : i < S.length → isLive x = true → ∀ a, v = .ref a → (∀ j, j ≠ i → ¬ LiveAt S σ j a) ∧ ∀ p ∈ G, p.1 ≠ a) :
    Rel b F G (sets S i x) (σ.set i (some v)) H := by
  have hl := r.len
  have key : ∀ j a, LiveAt (sets S i x) (σ.set i (some v)) j a → (j = i ∧ i < S.length ∧ isLive x = true ∧ v = .ref a) ∨ (j ≠ i ∧ LiveAt S σ j a) := fun j a l => by
    by_cases hj : i = j
    · subst hj
      by_cases hi : i < S.length
      · obtain ⟨l1, l2⟩ := l
        rw [gets_same _ _ _ hi] at l1
        rw [List.getElem?_set_self (by omega)] at l2
        exact .inl ⟨rfl, hi, l1, Option.some.inj (Option.some.inj l2)⟩
      · obtain ⟨l1, _⟩ := l
        rw [gets_out _ _ (by rw [len_sets]; exact hi)] at l1
        cases l1
    · exact .inr ⟨fun e => hj e.symm, liveAt_ne hj l⟩
  refine ⟨r.base, by rw [len_sets, List.length_set]; exact hl, fun j => ?_, fun j k a l1 l2 => ?_, fun p hp j l => ?_⟩
  · by_cases hj : i = j
    · subst hj
      by_cases hi : i < S.length
      · rw [gets_same _ _ _ hi, List.getElem?_set_self (by omega)]
        exact hx hi
      · rw [gets_out _ _ (by rw [len_sets]; exact hi)]
        exact True.intro
    · rw [gets_ne _ _ _ _ hj, List.getElem?_set_ne hj]
      exact r.slots j
  · rcases key j a l1 with ⟨e1, hi, lx, ev⟩ | ⟨n1, k1⟩
    · rcases key k a l2 with ⟨e2, _⟩ | ⟨n2, k2⟩
      · rw [e1, e2]
      · exact absurd k2 ((ha hi lx a ev).1 k n2)
    · rcases key k a l2 with ⟨e2, hi, lx, ev⟩ | ⟨n2, k2⟩
      · exact absurd k1 ((ha hi lx a ev).1 j n1)
      · exact r.apart j k a k1 k2
  · rcases key j p.1 l with ⟨_, hi, lx, ev⟩ | ⟨_, k1⟩
    · exact (ha hi lx p.1 ev).2 p hp rfl
    · exact r.apartG p hp j k1
theorem Rel.setVal (r : Rel b F G S σ H) {i : Nat} {d : D} {v : V} (h : Rep b F d v) : Rel b F G (sets S i (.val d)) (σ.set i (some v)) H :=
  r.put (fun _ => ⟨v, rfl, h⟩) fun _ l => by cases l
/-- the objects at T, the slot i's own, change or are frozen: σ stays -/
theorem Rel.turn (r : Rel b F G S σ H) {i : Nat} {x : Sl} (T : Addr → Prop) (hT : ∀ a, T a → b.H0 a = none ∧ (∀ j, j ≠ i → ¬ LiveAt S σ j a) ∧ ∀ p ∈ G, p.1 ≠ a) (hw : ∀ d a, T d → H d = some (.own a) → T a)
    (eH : ∀ a, ¬ T a → H' a = H a) (eF : ∀ a, ¬ T a → F' a = F a) (fF : ∀ a, T a → F a = none) (t : ∀ a, T a → ∀ o, F' a = some o → H' a = some o)
    (hx : isLive x = true → isLive (gets S i) = true) (ho : SlOk b F' H' x σ[i]?) : Rel b F' G (sets S i x) σ H' := by
  have s : Same F F' := fun a o e => by
    by_cases ta : T a
    · rw [fF a ta] at e
      cases e
    · rw [eF a ta]
      exact e
  have nl : ∀ j a, LiveAt (sets S i x) σ j a → LiveAt S σ j a := fun j a l => by
    by_cases hj : i = j
    · subst hj
      by_cases hi : i < S.length
      · obtain ⟨l1, l2⟩ := l
        rw [gets_same _ _ _ hi] at l1
        exact ⟨hx l1, l2⟩
      · have := l.1
        rw [gets_out _ _ (by rw [len_sets]; exact hi)] at this
        cases this
    · exact liveAt_keep hj l
  refine ⟨⟨fun a o e => ?_, fun a o e => ?_, r.base.mono.trans s, fun a q => ?_, fun p hp => ?_⟩, by rw [len_sets]; exact r.len, fun j => ?_, fun j k a l1 l2 => r.apart j k a (nl j a l1) (nl k a l2), fun p hp j l => r.apartG p hp j (nl j _ l)⟩
  · by_cases ta : T a
    · exact t a ta o e
    · rw [eH a ta]
      exact r.base.sameF _ _ (by rw [← eF a ta]; exact e)
  · rw [eH a fun ta => not_none e (hT a ta).1]
    exact r.base.sameH _ _ e
  · by_cases ta : T a
    · exact .inr (hT a ta).1
    · exact r.base.new a (by rw [← eF a ta]; exact q)
  · obtain ⟨h1, h2, h3, h4⟩ := r.base.gh p hp
    have nt : ¬ T p.1 := fun ta => (hT _ ta).2.2 p hp rfl
    exact ⟨by rw [eH _ nt]; exact h1, by rw [eF _ nt]; exact h2, h3, h4⟩
  · by_cases hj : i = j
    · subst hj
      by_cases hi : i < S.length
      · rw [gets_same _ _ _ hi]
        exact ho
      · rw [gets_out _ _ (by rw [len_sets]; exact hi)]
        exact True.intro
    · rw [gets_ne _ _ _ _ hj]
      have hj' : j ≠ i := fun e => hj e.symm
      have q := r.slots j
      have nt : ∀ a, isLive (gets S j) = true → σ[j]? = some (some (.ref a)) → ¬ T a := fun a l e ta => (hT a ta).2.1 j hj' ⟨l, e⟩
      cases e : gets S j with
      | no => exact True.intro
      | val d =>
        rw [e] at q
        obtain ⟨v, h1, h2⟩ := q
        exact ⟨v, h1, Rep.mono s d h2⟩
      | lv l =>
        rw [e] at q nt
        obtain ⟨a, vs, h1, h2, h3, h4, h5⟩ := q
        have na := nt a rfl h1
        exact ⟨a, vs, h1, by rw [eH _ na]; exact h2, by rw [eF _ na]; exact h3, h4, RepL.mono s l h5⟩
      | dv ks us =>
        rw [e] at q nt
        obtain ⟨a, es, h1, h2, h3, h4, h5, h6⟩ := q
        have na := nt a rfl h1
        exact ⟨a, es, h1, by rw [eH _ na]; exact h2, by rw [eF _ na]; exact h3, h4, h5.mono s, RepL.mono s us h6⟩
      | iv l =>
        rw [e] at q nt
        obtain ⟨a, dx, fs, h1, h2, hd, h3, h4, f3, f4, h5, h6⟩ := q
        have na := nt a rfl h1
        have nd : ¬ T dx := fun td => na (hw _ _ td hd)
        exact ⟨a, dx, fs, h1, by rw [eH _ na]; exact h2, by rw [eH _ nd]; exact hd, by rw [eF _ na]; exact h3, h4, by rw [eF _ nd]; exact f3, f4, h5, RepL.mono s l h6⟩
/-- what is said of a slot's own place -/
theorem Rel.own1 (r : Rel b F G S σ H) {i : Nat} {a : Addr} (l : LiveAt S σ i a) : (∀ j, j ≠ i → ¬ LiveAt S σ j a) ∧ ∀ p ∈ G, p.1 ≠ a :=
  ⟨fun j n k => n (r.apart j i a k l), fun p hp e => r.apartG p hp i (by rw [e]; exact l)⟩
/-! ### things under way -/
/-- a new object under way -/
theorem Rel.ghost (r : Rel b F G S σ H) {p : Addr} {o : HO} (h : H p = none) (no : ∀ a, o ≠ .own a) : Rel b F ((p, o) :: G) S σ (upd H p o) := by
  have hF : F p = none := sameNone r.base.sameF h
  have h0 : b.H0 p = none := r.base.sameH.free h
  have k : Same H (upd H p o) := same_upd' h
  have q := r.grow (fun _ _ e => e) k (r.base.sameF.trans k) fun a q => .inl q
  refine ⟨⟨q.base.sameF, q.base.sameH, q.base.mono, q.base.new, fun z hz => ?_⟩, q.len, q.slots, q.apart, fun z hz j l => ?_⟩
  · rcases List.mem_cons.mp hz with rfl | hz
    · exact ⟨upd_same, hF, h0, no⟩
    · exact q.base.gh z hz
  · rcases List.mem_cons.mp hz with rfl | hz
    · obtain ⟨a, o', e, hh, _⟩ := (r.slots j).live l.1
      have e2 : (p : Addr) = a := by
        have := e.symm.trans l.2
        cases this
        rfl
      subst e2
      rw [h] at hh
      cases hh
    · exact q.apartG z hz j l
theorem Rel.unghost {g : Addr × HO} (r : Rel b F (g :: G) S σ H) : Rel b F G S σ H :=
  ⟨⟨r.base.sameF, r.base.sameH, r.base.mono, r.base.new, fun z hz => r.base.gh z (List.mem_cons_of_mem _ hz)⟩, r.len, r.slots, r.apart, fun z hz => r.apartG z (List.mem_cons_of_mem _ hz)⟩
theorem Base.unghost {g : Addr × HO} (r : Base b F (g :: G) H) : Base b F G H := ⟨r.sameF, r.sameH, r.mono, r.new, fun z hz => r.gh z (List.mem_cons_of_mem _ hz)⟩
/-- the thing under way is changed -/
theorem Rel.ghostTurn {p : Addr} {o o' : HO} (r : Rel b F ((p, o) :: G) S σ H) (nd : ∀ q ∈ G, q.1 ≠ p) (no' : ∀ a, o' ≠ .own a) : Rel b F ((p, o') :: G) S σ (upd H p o') := by
  obtain ⟨h1, h2, h3, no⟩ := r.base.gh (p, o) List.mem_cons_self
  have nF : ∀ a u, F a = some u → a ≠ p := fun a u e z => by
    rw [z, h2] at e
    cases e
  have n0 : ∀ a u, b.H0 a = some u → a ≠ p := fun a u e z => by
    rw [z, h3] at e
    cases e
  refine ⟨⟨fun a u e => by rw [upd_ne (nF a u e)]; exact r.base.sameF _ _ e, fun a u e => by rw [upd_ne (n0 a u e)]; exact r.base.sameH _ _ e, r.base.mono, r.base.new, fun z hz => ?_⟩, r.len, fun j => ?_, r.apart, fun z hz j l => ?_⟩
  · rcases List.mem_cons.mp hz with rfl | hz
    · exact ⟨upd_same, h2, h3, no'⟩
    · obtain ⟨k1, k2, k3, k4⟩ := r.base.gh z (List.mem_cons_of_mem _ hz)
      exact ⟨by rw [upd_ne (nd z hz)]; exact k1, k2, k3, k4⟩
  · have q := r.slots j
    have nt : ∀ a, isLive (gets S j) = true → σ[j]? = some (some (.ref a)) → a ≠ p := fun a l e z => r.apartG _ List.mem_cons_self j (by rw [← z]; exact ⟨l, e⟩)
    cases e : gets S j with
    | no => exact True.intro
    | val d =>
      rw [e] at q
      exact q
    | lv l =>
      rw [e] at q nt
      obtain ⟨a, vs, z1, z2, z3⟩ := q
      exact ⟨a, vs, z1, by rw [upd_ne (nt a rfl z1)]; exact z2, z3⟩
    | dv ks us =>
      rw [e] at q nt
      obtain ⟨a, es, z1, z2, z3⟩ := q
      exact ⟨a, es, z1, by rw [upd_ne (nt a rfl z1)]; exact z2, z3⟩
    | iv l =>
      rw [e] at q nt
      obtain ⟨a, dx, fs, z1, z2, z3, z4⟩ := q
      have nd' : dx ≠ p := fun z => by
        rw [z, h1] at z3
        exact no a (Option.some.inj z3)
      exact ⟨a, dx, fs, z1, by rw [upd_ne (nt a rfl z1)]; exact z2, by rw [upd_ne nd']; exact z3, z4⟩
  · rcases List.mem_cons.mp hz with rfl | hz
    · exact r.apartG _ List.mem_cons_self j l
    · exact r.apartG z (List.mem_cons_of_mem _ hz) j l
/-- the thing under way is frozen -/
theorem Rel.ghostFreeze {p : Addr} {o : HO} (r : Rel b F ((p, o) :: G) S σ H) (nd : ∀ q ∈ G, q.1 ≠ p) : Rel b (upd F p o) G S σ H ∧ Same F (upd F p o) := by
  obtain ⟨h1, h2, h3, no⟩ := r.base.gh (p, o) List.mem_cons_self
  have s : Same F (upd F p o) := same_upd' h2
  have t : Same (upd F p o) H := fun a u e => by
    by_cases ha : a = p
    · subst ha
      rw [upd_same] at e
      cases e
      exact h1
    · rw [upd_ne ha] at e
      exact r.base.sameF _ _ e
  refine ⟨⟨⟨t, r.base.sameH, r.base.mono.trans s, fun a q => ?_, fun z hz => ?_⟩, r.len, fun j => ?_, r.apart, fun z hz => r.apartG z (List.mem_cons_of_mem _ hz)⟩, s⟩
  · by_cases ha : a = p
    · subst ha
      exact .inr h3
    · rw [upd_ne ha] at q
      exact r.base.new a q
  · obtain ⟨k1, k2, k3, k4⟩ := r.base.gh z (List.mem_cons_of_mem _ hz)
    exact ⟨k1, by rw [upd_ne (nd z hz)]; exact k2, k3, k4⟩
  · have q := r.slots j
    have nt : ∀ a, isLive (gets S j) = true → σ[j]? = some (some (.ref a)) → a ≠ p := fun a l e z => r.apartG _ List.mem_cons_self j (by rw [← z]; exact ⟨l, e⟩)
    cases e : gets S j with
    | no => exact True.intro
    | val d =>
      rw [e] at q
      obtain ⟨v, z1, z2⟩ := q
      exact ⟨v, z1, Rep.mono s d z2⟩
    | lv l =>
      rw [e] at q nt
      obtain ⟨a, vs, z1, z2, z3, z4, z5⟩ := q
      exact ⟨a, vs, z1, z2, by rw [upd_ne (nt a rfl z1)]; exact z3, z4, RepL.mono s l z5⟩
    | dv ks us =>
      rw [e] at q nt
      obtain ⟨a, es, z1, z2, z3, z4, z5, z6⟩ := q
      exact ⟨a, es, z1, z2, by rw [upd_ne (nt a rfl z1)]; exact z3, z4, z5.mono s, RepL.mono s us z6⟩
    | iv l =>
      rw [e] at q nt
      obtain ⟨a, dx, fs, z1, z2, zd, z3, z4, y3, y4, z5, z6⟩ := q
      have nd' : dx ≠ p := fun z => by
        rw [z, h1] at zd
        exact no a (Option.some.inj zd)
      exact ⟨a, dx, fs, z1, z2, zd, by rw [upd_ne (nt a rfl z1)]; exact z3, z4, by rw [upd_ne nd']; exact y3, y4, z5, RepL.mono s l z6⟩
/-- a thing under way comes to a slot -/
theorem Rel.settle {p : Addr} {o : HO} {i : Nat} {x : Sl} (r : Rel b F ((p, o) :: G) S σ H) (nd : ∀ q ∈ G, q.1 ≠ p) (h : SlOk b F H x (some (some (.ref p)))) : Rel b F G (sets S i x) (σ.set i (some (.ref p))) H := by
  refine r.unghost.put (fun _ => h) fun _ _ a e => ?_
  cases e
  exact ⟨fun j _ => r.apartG _ List.mem_cons_self j, nd⟩
end
end Tee
set_option maxRecDepth 100000
set_option maxHeartbeats 4000000
/-! Data trees at a heap: == and <, as they run. -/
namespace Tee
open PySem PySem.SeqAt
open PySem.AutoSeq1 (wpAny_loadPart')
open PySem.MeetsSeq PySem.MeetsSeq2 PySem.MeetsSeq3


/-- pairs from the left: the first unequal one tells -/
def RunC (A : Around) (s : Shared) (R : Value → Value → Bool → Prop) (z : Bool) : List (Value × Value) → Bool → Prop
  | [], r => r = z
  | (x, y) :: t, r => (EqAt A s x y true ∧ RunC A s R z t r) ∨ (EqAt A s x y false ∧ R x y r)

theorem tuple_lt_run (l b : Addr) (items items2 : Array Value) (n n2 : Nat) (dd dd2 : Option Addr) (sl sl2 : Array (Option Value)) (r : Bool) :
    Meets (Builtin.«tuple.__lt__» ⟨[.ref l, .ref b], []⟩)
      (fun A R s => s.heap.get? l = some { cls := .type "tuple", dict := dd, data := .seq items n, slots := sl } ∧ s.heap.get? b = some { cls := .type "tuple", dict := dd2, data := .seq items2 n2, slots := sl2 } ∧
        RunC A.in1 s (fun x y r => Ob.RcOp .Lt A.in1 s x y r) (decide (items.size < items2.size)) (items.toList.zip items2.toList) r ∧ R (.ok (.ret (.bool r))) s) :=
  .of_wp fun prog w A R s h => by
    obtain ⟨hp, g, d, tk, os⟩ := s
    obtain ⟨hl, hb, hr, h⟩ := h
    have f2 := AutoSeq1.sub_tuple_tuple
    wp_walk using wpAny_loadPart' hl, wpAny_loadPart' hb, wpAny_forIn_list _ (fun rest c s' => c.1 = none ∧ s' = ⟨hp, g, d, tk, os⟩ ∧
      RunC A.in1 ⟨hp, g, d, tk, os⟩ (fun x y r => Ob.RcOp .Lt A.in1 ⟨hp, g, d, tk, os⟩ x y r) (decide (items.size < items2.size)) rest r) _
    case turn =>
      rintro ⟨y, x⟩ rest c s' ⟨hc, rfl, hR⟩
      rcases hR with ⟨e, hR⟩ | ⟨e, hR⟩
      · refine wpAny_bind (e prog w _ _ ?_)
        wp_walk
        exact ⟨rfl, rfl, hR⟩
      · refine wpAny_bind (e prog w _ _ ?_)
        have hri := hR prog w
        wp_walk using hri
        exact ⟨_, rfl, h⟩
    case fin =>
      rintro ⟨c1, c2⟩ s' ⟨hc, rfl, hR⟩
      simp only at hc
      subst hc
      have hR' : r = decide (items.size < items2.size) := hR
      subst hR'
      wp_walk
      exact ⟨_, rfl, by simpa [Builtin.Tuple.tupleCompareSizes] using h⟩
    case h =>
      exact ⟨rfl, rfl, hr⟩
theorem tuple_eq_run (l b : Addr) (items items2 : Array Value) (n n2 : Nat) (dd dd2 : Option Addr) (sl sl2 : Array (Option Value)) (r : Bool) :
    Meets (Builtin.«tuple.__eq__» ⟨[.ref l, .ref b], []⟩)
      (fun A R s => s.heap.get? l = some { cls := .type "tuple", dict := dd, data := .seq items n, slots := sl } ∧ s.heap.get? b = some { cls := .type "tuple", dict := dd2, data := .seq items2 n2, slots := sl2 } ∧
        RunC A.in1 s (fun _ _ r => r = false) (items.size == items2.size) (items.toList.zip items2.toList) r ∧ R (.ok (.ret (.bool r))) s) :=
  .of_wp fun prog w A R s h => by
    obtain ⟨hp, g, d, tk, os⟩ := s
    obtain ⟨hl, hb, hr, h⟩ := h
    have f2 := AutoSeq1.sub_tuple_tuple
    wp_walk using wpAny_loadPart' hl, wpAny_loadPart' hb, wpAny_forIn_list _ (fun rest c s' => c.1 = none ∧ s' = ⟨hp, g, d, tk, os⟩ ∧
      RunC A.in1 ⟨hp, g, d, tk, os⟩ (fun _ _ r => r = false) (items.size == items2.size) rest r) _
    case turn =>
      rintro ⟨y, x⟩ rest c s' ⟨hc, rfl, hR⟩
      rcases hR with ⟨e, hR⟩ | ⟨e, hR⟩
      · refine wpAny_bind (e prog w _ _ ?_)
        wp_walk
        exact ⟨rfl, rfl, hR⟩
      · refine wpAny_bind (e prog w _ _ ?_)
        subst hR
        wp_walk
        exact ⟨_, rfl, h⟩
    case fin =>
      rintro ⟨c1, c2⟩ s' ⟨hc, rfl, hR⟩
      simp only at hc
      subst hc
      have hR' : r = (items.size == items2.size) := hR
      subst hR'
      wp_walk
      exact ⟨_, rfl, by simpa [Builtin.Tuple.tupleCompareSizes] using h⟩
    case h =>
      exact ⟨rfl, rfl, hr⟩
theorem rcLt_tuples {A : Around} {s : Shared} {l b : Addr} {items items2 : Array Value} {r : Bool} (hl : s.heap.IsTuple l items) (hb : s.heap.IsTuple b items2) (hu : A.units < cLine)
    (h : RunC A.in1 s (fun x y r => Ob.RcOp .Lt A.in1 s x y r) (decide (items.size < items2.size)) (items.toList.zip items2.toList) r) : Ob.RcOp .Lt A s (.ref l) (.ref b) r := fun prog w E Q q => by
  obtain ⟨⟨cls, dd, data, sl⟩, ho, hc, n, hd⟩ := id hl
  obtain ⟨⟨cls2, dd2, data2, sl2⟩, ho2, hc2, n2, hd2⟩ := id hb
  simp only at hc hd hc2 hd2
  subst hc hd hc2 hd2
  exact richCompare_meets_room (op := .Lt) ⟨_, ho, rfl⟩ ⟨_, ho2, rfl⟩ F.slot_tuple_lt F.entry_tuple_lt (F.args_tuple_lt_2 _ _) (tuple_lt_run l b items items2 n n2 dd dd2 sl sl2 r)
    ⟨ho, ho2, h, ⟨(fun x => nomatch x), q⟩⟩ hu
theorem rcEq_tuples {A : Around} {s : Shared} {l b : Addr} {items items2 : Array Value} {r : Bool} (hl : s.heap.IsTuple l items) (hb : s.heap.IsTuple b items2) (hu : A.units < cLine)
    (h : RunC A.in1 s (fun _ _ r => r = false) (items.size == items2.size) (items.toList.zip items2.toList) r) : RcAt A s (.ref l) (.ref b) r := fun prog w E Q q => by
  obtain ⟨⟨cls, dd, data, sl⟩, ho, hc, n, hd⟩ := id hl
  obtain ⟨⟨cls2, dd2, data2, sl2⟩, ho2, hc2, n2, hd2⟩ := id hb
  simp only at hc hd hc2 hd2
  subst hc hd hc2 hd2
  exact richCompare_meets_room (op := .Eq) ⟨_, ho, rfl⟩ ⟨_, ho2, rfl⟩ F.slot_tuple_eq F.entry_tuple_eq (F.args_tuple_eq_2 _ _) (tuple_eq_run l b items items2 n n2 dd dd2 sl sl2 r)
    ⟨ho, ho2, h, ⟨(fun x => nomatch x), q⟩⟩ hu

/-! ### trees at a heap -/
mutual
def At (h : Heap) : D → Value → Prop
  | .non, u => u = .none
  | .bl x, u => u = .bool x
  | .int i, u => ∃ t, u = .int i t
  | .sym c, u => ∃ t, u = .str c.str t
  | .tup l, u => ∃ a items, u = .ref a ∧ h.IsTuple a items ∧ AtL h l items.toList
  | .fn _, _ => True
  | .lst _, _ => True
  | .dct _ _, _ => True
  | .ins _, _ => True
def AtL (h : Heap) : List D → List Value → Prop
  | [], us => us = []
  | d :: l, us => ∃ u r, us = u :: r ∧ At h d u ∧ AtL h l r
end
mutual
theorem At.keep {h h' : Heap} (k : ∀ a o, h.get? a = some o → o.cls = .type "tuple" → h'.get? a = some o) : ∀ (d : D) {u : Value}, At h d u → At h' d u
  | .non, _, q => by rw [At] at q ⊢; exact q
  | .bl _, _, q => by rw [At] at q ⊢; exact q
  | .int _, _, q => by rw [At] at q ⊢; exact q
  | .sym _, _, q => by rw [At] at q ⊢; exact q
  | .fn _, _, _ => by rw [At]; exact True.intro
  | .lst _, _, _ => by rw [At]; exact True.intro
  | .dct _ _, _, _ => by rw [At]; exact True.intro
  | .ins _, _, _ => by rw [At]; exact True.intro
  | .tup l, _, q => by
    rw [At] at q ⊢
    obtain ⟨a, items, e, ⟨o, e1, e2, e3⟩, r⟩ := q
    exact ⟨a, items, e, ⟨o, k _ _ e1 e2, e2, e3⟩, AtL.keep k l r⟩
theorem AtL.keep {h h' : Heap} (k : ∀ a o, h.get? a = some o → o.cls = .type "tuple" → h'.get? a = some o) : ∀ (l : List D) {us : List Value}, AtL h l us → AtL h' l us
  | [], _, q => by rw [AtL] at q ⊢; exact q
  | d :: l, _, q => by
    rw [AtL] at q ⊢
    obtain ⟨u, r, e, q1, q2⟩ := q
    exact ⟨u, r, e, At.keep k d q1, AtL.keep k l q2⟩
end
theorem AtL.len {h : Heap} : ∀ {l : List D} {us : List Value}, AtL h l us → us.length = l.length
  | [], _, q => by
    rw [AtL] at q
    rw [q]
    rfl
  | d :: l, _, q => by
    rw [AtL] at q
    obtain ⟨u, r, e, q1, q2⟩ := q
    rw [e, List.length_cons, List.length_cons, AtL.len q2]
theorem AtL.mem {h : Heap} : ∀ {l : List D} {us : List Value}, AtL h l us → ∀ u ∈ us, ∃ d ∈ l, At h d u
  | [], _, q => by
    rw [AtL] at q
    rw [q]
    exact fun u hu => absurd hu (by simp)
  | d :: l, _, q => by
    rw [AtL] at q
    obtain ⟨u, r, rfl, q1, q2⟩ := q
    intro z hz
    rcases List.mem_cons.mp hz with rfl | hz
    · exact ⟨d, List.mem_cons_self, q1⟩
    · obtain ⟨d', m, x⟩ := AtL.mem q2 z hz
      exact ⟨d', List.mem_cons_of_mem _ m, x⟩
theorem nbeq (a c : Nat) : Nat.beq a c = decide (a = c) := by
  cases q : Nat.beq a c with
  | true => simp [Nat.eq_of_beq_eq_true q]
  | false => simp [Nat.ne_of_beq_eq_false q]
theorem nblt (a c : Nat) : Nat.blt a c = decide (a < c) := by
  cases q : Nat.blt a c with
  | true =>
    have : a + 1 ≤ c := Nat.le_of_ble_eq_true q
    exact (decide_eq_true (show a < c from this)).symm
  | false =>
    have : ¬ a + 1 ≤ c := fun z => by
      rw [show Nat.blt a c = true from Nat.ble_eq_true_of_le z] at q
      cases q
    exact (decide_eq_false (show ¬ a < c from this)).symm
theorem ieq_iff {i j : Int} : ieq i j = (i == j) := by
  cases i <;> cases j <;> rename_i a c
  · rw [show ieq (Int.ofNat a) (Int.ofNat c) = Nat.beq a c from rfl, nbeq]
    by_cases e : a = c
    · subst e; simp
    · have : ¬ Int.ofNat a = Int.ofNat c := fun z => e (Int.ofNat.inj z)
      rw [decide_eq_false e]
      exact (beq_eq_false_iff_ne.mpr this).symm
  · rfl
  · rfl
  · rw [show ieq (Int.negSucc a) (Int.negSucc c) = Nat.beq a c from rfl, nbeq]
    by_cases e : a = c
    · subst e; simp
    · have : ¬ Int.negSucc a = Int.negSucc c := fun z => e (Int.negSucc.inj z)
      rw [decide_eq_false e]
      exact (beq_eq_false_iff_ne.mpr this).symm
theorem ilt_iff {i j : Int} : ilt i j = decide (i < j) := by
  cases i <;> cases j <;> rename_i a c
  · rw [show ilt (Int.ofNat a) (Int.ofNat c) = Nat.blt a c from rfl, nblt]
    exact decide_eq_decide.mpr (Int.ofNat_lt (n := a) (m := c)).symm
  · show false = _
    symm
    exact decide_eq_false (by have := Int.negSucc_lt_zero c; have h : (0 : Int) ≤ Int.ofNat a := Int.natCast_nonneg a; omega)
  · show true = _
    symm
    exact decide_eq_true (by have := Int.negSucc_lt_zero a; have h : (0 : Int) ≤ Int.ofNat c := Int.natCast_nonneg c; omega)
  · rw [show ilt (Int.negSucc a) (Int.negSucc c) = Nat.blt c a from rfl, nblt]
    exact decide_eq_decide.mpr (by rw [Int.negSucc_eq, Int.negSucc_eq]; omega)
theorem sym_eq (i j : Sym) : Nat.beq i.nn j.nn = (i.str == j.str) := by
  cases i <;> cases j <;> decide +kernel
theorem sym_lt (i j : Sym) : Nat.blt i.nn j.nn = decide (i.str.cps.toList < j.str.cps.toList) := by
  cases i <;> cases j <;> decide +kernel

theorem in1_units {A : Around} : A.in1.units = A.units + 1 := rfl
/-- two trees of one value are not unequal -/
theorem at_same {hp : Heap} : ∀ (n : Nat) (a b : D) (u : Value) (r : Bool), eqD n a b = some r → At hp a u → At hp b u → r = true
  | 0, _, _, _, _, h, _, _ => by simp [eqD] at h
  | n + 1, a, b, u, r, h, ha, hb => by
    have ls : ∀ (l m : List D) (us : List Value) (r : Bool), eqL (eqD n) l m = some r → AtL hp l us → AtL hp m us → r = true := by
      intro l
      induction l with
      | nil =>
        intro m us r h hl hm
        simp only [AtL] at hl
        subst hl
        cases m with
        | nil =>
          have : some true = some r := h
          exact (Option.some.inj this).symm
        | cons d m =>
          simp only [AtL] at hm
          obtain ⟨_, _, z, _⟩ := hm
          cases z
      | cons d l ih =>
        intro m us r h hl hm
        simp only [AtL] at hl
        obtain ⟨u, us', rfl, h1, h2⟩ := hl
        cases m with
        | nil =>
          simp only [AtL] at hm
          cases hm
        | cons d2 m =>
          simp only [AtL] at hm
          obtain ⟨v, vs', z, k1, k2⟩ := hm
          cases z
          rw [eqL] at h
          cases e : eqD n d d2 with
          | none =>
            rw [e] at h
            cases h
          | some c =>
            rw [e] at h
            have qq := at_same n d d2 u c e h1 k1
            subst qq
            exact ih m us' r h h2 k2
    cases a with
    | int i =>
      cases b with
      | int j =>
        simp only [At] at ha hb
        obtain ⟨t, rfl⟩ := ha
        obtain ⟨t', e⟩ := hb
        cases e
        have h' : some (ieq i i) = some r := h
        rw [← Option.some.inj h', ieq_iff]
        simp
      | tup l =>
        simp only [At] at ha hb
        obtain ⟨t, rfl⟩ := ha
        obtain ⟨q, items, e, _⟩ := hb
        cases e
      | non =>
        simp only [At] at ha hb
        obtain ⟨t, rfl⟩ := ha
        cases hb
      | sym j =>
        simp only [At] at ha hb
        obtain ⟨t, rfl⟩ := ha
        obtain ⟨t', e⟩ := hb
        cases e
      | _ => simp [eqD] at h
    | sym i =>
      cases b with
      | sym j =>
        simp only [At] at ha hb
        obtain ⟨t, rfl⟩ := ha
        obtain ⟨t', e⟩ := hb
        have e2 : i.str = j.str := by
          injection e
        have h' : some (Nat.beq i.nn j.nn) = some r := h
        rw [← Option.some.inj h', sym_eq, e2]
        simp
      | tup l =>
        simp only [At] at ha hb
        obtain ⟨t, rfl⟩ := ha
        obtain ⟨q, items, e, _⟩ := hb
        cases e
      | int j =>
        simp only [At] at ha hb
        obtain ⟨t, rfl⟩ := ha
        obtain ⟨t', e⟩ := hb
        cases e
      | _ => simp [eqD] at h
    | bl i =>
      cases b with
      | bl j =>
        simp only [At] at ha hb
        subst ha
        cases hb
        have h' : some (i == i) = some r := h
        rw [← Option.some.inj h']
        simp
      | _ => simp [eqD] at h
    | non =>
      cases b with
      | non =>
        have h' : some true = some r := h
        exact (Option.some.inj h').symm
      | tup l =>
        simp only [At] at ha hb
        subst ha
        obtain ⟨q, items, e, _⟩ := hb
        cases e
      | int j =>
        simp only [At] at ha hb
        subst ha
        obtain ⟨t, e⟩ := hb
        cases e
      | _ => simp [eqD] at h
    | tup l =>
      cases b with
      | tup m =>
        simp only [At] at ha hb
        obtain ⟨q, items, rfl, ⟨o, e1, _, _, e2⟩, hl⟩ := ha
        obtain ⟨q2, items2, e, ⟨o', e3, _, _, e4⟩, hm⟩ := hb
        cases e
        rw [e1] at e3
        cases e3
        rw [e2] at e4
        cases e4
        exact ls l m _ r h hl hm
      | sym j =>
        simp only [At] at ha hb
        obtain ⟨q, items, rfl, _⟩ := ha
        obtain ⟨t, e⟩ := hb
        cases e
      | int j =>
        simp only [At] at ha hb
        obtain ⟨q, items, rfl, _⟩ := ha
        obtain ⟨t, e⟩ := hb
        cases e
      | non =>
        simp only [At] at ha hb
        obtain ⟨q, items, rfl, _⟩ := ha
        cases hb
      | _ => simp [eqD] at h
    | fn k => cases b <;> simp [eqD] at h
    | lst l => cases b <;> simp [eqD] at h
    | dct k v => cases b <;> simp [eqD] at h
    | ins l => cases b <;> simp [eqD] at h
/-- ==, as the trees tell it -/
theorem eqAt_tree : ∀ (n : Nat) (a b : D) (u v : Value) (r : Bool) (A : Around) (s : Shared), eqD n a b = some r → At s.heap a u → At s.heap b v → A.units + n < cLine → EqAt A s u v r
  | 0, _, _, _, _, _, _, _, h, _, _, _ => by simp [eqD] at h
  | n + 1, a, b, u, v, r, A, s, h, ha, hb, hu => by
    have tt : ∀ (l m : List D) (us vs : List Value) (r : Bool) (z : Bool), eqL (eqD n) l m = some r → AtL s.heap l us → AtL s.heap m vs → z = (us.length == vs.length) →
        RunC A.in1 s (fun _ _ r => r = false) (if l.length = m.length then true else false) (us.zip vs) r := by
      intro l
      induction l with
      | nil =>
        intro m us vs r z h hl hm _
        rw [AtL] at hl
        subst hl
        cases m with
        | nil =>
          simp only [eqL, Option.some.injEq] at h
          rw [← h]
          rfl
        | cons d m =>
          simp only [eqL, Option.some.injEq] at h
          rw [← h]
          rfl
      | cons d l ih =>
        intro m us vs r z h hl hm hz
        rw [AtL] at hl
        obtain ⟨u, us', rfl, h1, h2⟩ := hl
        cases m with
        | nil =>
          rw [AtL] at hm
          subst hm
          simp only [eqL, Option.some.injEq] at h
          rw [← h]
          rfl
        | cons d2 m =>
          rw [AtL] at hm
          obtain ⟨v, vs', rfl, k1, k2⟩ := hm
          have hu' : A.in1.units + n < cLine := by rw [in1_units]; omega
          rw [eqL] at h
          cases e : eqD n d d2 with
          | none =>
            rw [e] at h
            cases h
          | some c =>
            rw [e] at h
            have q := eqAt_tree n d d2 u v c A.in1 s e h1 k1 hu'
            cases c with
            | true =>
              refine .inl ⟨q, ?_⟩
              have e2 : (if (d :: l).length = (d2 :: m).length then true else false) = (if l.length = m.length then true else false) := by simp
              rw [e2]
              exact ih m us' vs' r _ h h2 k2 rfl
            | false =>
              have h' : some false = some r := h
              exact .inr ⟨q, (Option.some.inj h').symm⟩
    cases a with
    | int i =>
      cases b with
      | int j =>
        simp only [At] at ha hb
        obtain ⟨t, rfl⟩ := ha
        obtain ⟨t', rfl⟩ := hb
        have h' : some (ieq i j) = some r := h
        rw [← Option.some.inj h', ieq_iff]
        exact EqAt.int_int i t j t'
      | tup l =>
        simp only [At] at ha hb
        obtain ⟨t, rfl⟩ := ha
        obtain ⟨q, items, rfl, hq, _⟩ := hb
        have h' : some false = some r := h
        rw [← Option.some.inj h']
        exact EqAt.int_tuple i t hq (by omega)
      | non =>
        simp only [At] at ha hb
        obtain ⟨t, rfl⟩ := ha
        subst hb
        have h' : some false = some r := h
        rw [← Option.some.inj h']
        exact EqAt.int_none i t
      | sym j =>
        simp only [At] at ha hb
        obtain ⟨t, rfl⟩ := ha
        obtain ⟨t', rfl⟩ := hb
        have h' : some false = some r := h
        rw [← Option.some.inj h']
        exact EqAt.int_str i t _ t'
      | _ => simp [eqD] at h
    | sym i =>
      cases b with
      | sym j =>
        simp only [At] at ha hb
        obtain ⟨t, rfl⟩ := ha
        obtain ⟨t', rfl⟩ := hb
        have h' : some (Nat.beq i.nn j.nn) = some r := h
        rw [← Option.some.inj h', sym_eq]
        exact EqAt.str_str _ t _ t'
      | tup l =>
        simp only [At] at ha hb
        obtain ⟨t, rfl⟩ := ha
        obtain ⟨q, items, rfl, hq, _⟩ := hb
        have h' : some false = some r := h
        rw [← Option.some.inj h']
        exact EqAt.str_tuple _ t hq (by omega)
      | int j =>
        simp only [At] at ha hb
        obtain ⟨t, rfl⟩ := ha
        obtain ⟨t', rfl⟩ := hb
        have h' : some false = some r := h
        rw [← Option.some.inj h']
        exact EqAt.str_int _ t j t'
      | _ => simp [eqD] at h
    | bl i =>
      cases b with
      | bl j =>
        simp only [At] at ha hb
        subst ha hb
        have h' : some (i == j) = some r := h
        rw [← Option.some.inj h']
        exact EqAt.bool_bool i j
      | _ => simp [eqD] at h
    | non =>
      cases b with
      | non =>
        simp only [At] at ha hb
        subst ha hb
        have h' : some true = some r := h
        rw [← Option.some.inj h']
        exact EqAt.same _
      | tup l =>
        simp only [At] at ha hb
        subst ha
        obtain ⟨q, items, rfl, hq, _⟩ := hb
        have h' : some false = some r := h
        rw [← Option.some.inj h']
        exact EqAt.none_tuple hq (by omega)
      | int j =>
        simp only [At] at ha hb
        subst ha
        obtain ⟨t, rfl⟩ := hb
        have h' : some false = some r := h
        rw [← Option.some.inj h']
        exact EqAt.none_int j t
      | _ => simp [eqD] at h
    | tup l =>
      cases b with
      | tup m =>
        simp only [At] at ha hb
        obtain ⟨q, items, rfl, hq, hl⟩ := ha
        obtain ⟨q2, items2, rfl, hq2, hm⟩ := hb
        have h' : eqL (eqD n) l m = some r := h
        by_cases e : q = q2
        · subst e
          have hr : r = true := at_same (n + 1) (.tup l) (.tup m) (.ref q) r h (by simp only [At]; exact ⟨q, items, rfl, hq, hl⟩) (by simp only [At]; exact ⟨q, items2, rfl, hq2, hm⟩)
          rw [hr]
          exact EqAt.same _
        · refine EqAt.of_refs e (rcEq_tuples hq hq2 (by omega) ?_)
          have z := tt l m items.toList items2.toList r _ h' hl hm rfl
          have e1 : (items.size == items2.size) = (if l.length = m.length then true else false) := by
            have a1 := hl.len
            have a2 := hm.len
            rw [Array.length_toList] at a1 a2
            rw [a1, a2]
            by_cases e : l.length = m.length <;> simp [e]
          rw [e1]
          exact z
      | sym j =>
        simp only [At] at ha hb
        obtain ⟨q, items, rfl, hq, _⟩ := ha
        obtain ⟨t, rfl⟩ := hb
        have h' : some false = some r := h
        rw [← Option.some.inj h']
        exact EqAt.tuple_str _ t hq (by omega)
      | int j =>
        simp only [At] at ha hb
        obtain ⟨q, items, rfl, hq, _⟩ := ha
        obtain ⟨t, rfl⟩ := hb
        have h' : some false = some r := h
        rw [← Option.some.inj h']
        exact EqAt.tuple_int j t hq (by omega)
      | non =>
        simp only [At] at ha hb
        obtain ⟨q, items, rfl, hq, _⟩ := ha
        subst hb
        have h' : some false = some r := h
        rw [← Option.some.inj h']
        exact EqAt.tuple_none hq (by omega)
      | _ => simp [eqD] at h
    | fn k => cases b <;> simp [eqD] at h
    | lst l => cases b <;> simp [eqD] at h
    | dct k v => cases b <;> simp [eqD] at h
    | ins l => cases b <;> simp [eqD] at h
/-- <, as the trees tell it -/
theorem rcLt_tree : ∀ (n : Nat) (a b : D) (u v : Value) (r : Bool) (A : Around) (s : Shared), ltD n a b = some r → At s.heap a u → At s.heap b v → A.units + n < cLine → Ob.RcOp .Lt A s u v r
  | 0, _, _, _, _, _, _, _, h, _, _, _ => by simp [ltD] at h
  | n + 1, a, b, u, v, r, A, s, h, ha, hb, hu => by
    have hu' : A.in1.units + n < cLine := by rw [in1_units]; omega
    have tt : ∀ (l m : List D) (us vs : List Value) (r : Bool), ltL (eqD n) (ltD n) l m = some r → AtL s.heap l us → AtL s.heap m vs →
        RunC A.in1 s (fun x y r => Ob.RcOp .Lt A.in1 s x y r) (decide (us.length < vs.length)) (us.zip vs) r := by
      intro l
      induction l with
      | nil =>
        intro m us vs r h hl hm
        simp only [AtL] at hl
        subst hl
        cases m with
        | nil =>
          simp only [AtL] at hm
          subst hm
          have h' : some false = some r := h
          rw [← Option.some.inj h']
          rfl
        | cons d m =>
          simp only [AtL] at hm
          obtain ⟨v, vs', rfl, _⟩ := hm
          have h' : some true = some r := h
          rw [← Option.some.inj h']
          rfl
      | cons d l ih =>
        intro m us vs r h hl hm
        simp only [AtL] at hl
        obtain ⟨u, us', rfl, h1, h2⟩ := hl
        cases m with
        | nil =>
          simp only [AtL] at hm
          subst hm
          have h' : some false = some r := h
          rw [← Option.some.inj h']
          rfl
        | cons d2 m =>
          simp only [AtL] at hm
          obtain ⟨v, vs', rfl, k1, k2⟩ := hm
          rw [ltL] at h
          cases e : eqD n d d2 with
          | none =>
            rw [e] at h
            cases h
          | some c =>
            rw [e] at h
            have q := eqAt_tree n d d2 u v c A.in1 s e h1 k1 hu'
            cases c with
            | true =>
              refine .inl ⟨q, ?_⟩
              have e2 : decide ((u :: us').length < (v :: vs').length) = decide (us'.length < vs'.length) := by simp
              rw [e2]
              exact ih m us' vs' r h h2 k2
            | false => exact .inr ⟨q, rcLt_tree n d d2 u v r A.in1 s h h1 k1 hu'⟩
    cases a with
    | int i =>
      cases b with
      | int j =>
        simp only [At] at ha hb
        obtain ⟨t, rfl⟩ := ha
        obtain ⟨t', rfl⟩ := hb
        have h' : some (ilt i j) = some r := h
        rw [← Option.some.inj h', ilt_iff]
        exact Ob.RcOp.lt_int i j t t'
      | _ => simp [ltD] at h
    | sym i =>
      cases b with
      | sym j =>
        simp only [At] at ha hb
        obtain ⟨t, rfl⟩ := ha
        obtain ⟨t', rfl⟩ := hb
        have h' : some (Nat.blt i.nn j.nn) = some r := h
        rw [← Option.some.inj h', sym_lt]
        exact fun prog w E Q q => DT.rcLt_str A s _ t _ t' prog w E Q q
      | _ => simp [ltD] at h
    | tup l =>
      cases b with
      | tup m =>
        simp only [At] at ha hb
        obtain ⟨q, items, rfl, hq, hl⟩ := ha
        obtain ⟨q2, items2, rfl, hq2, hm⟩ := hb
        refine rcLt_tuples hq hq2 (by omega) ?_
        have z := tt l m items.toList items2.toList r h hl hm
        rw [Array.length_toList, Array.length_toList] at z
        exact z
      | _ => simp [ltD] at h
    | non => cases b <;> simp [ltD] at h
    | bl i => cases b <;> simp [ltD] at h
    | fn k => cases b <;> simp [ltD] at h
    | lst l => cases b <;> simp [ltD] at h
    | dct k v => cases b <;> simp [ltD] at h
    | ins l => cases b <;> simp [ltD] at h
end Tee
set_option maxRecDepth 100000
set_option maxHeartbeats 4000000
/-! Sorting trees. -/
namespace Tee
open PySem PySem.SeqAt PyProof.Rows
open SrtO (Swo Srtd Stb Cmp lt2 SortableO)


/-! ### insertion -/
section
variable {α β : Type}
def insB (lt : α → α → Bool) (x : α) : List α → List α
  | [] => [x]
  | y :: r => if lt y x = true then y :: insB lt x r else x :: y :: r
def srtB (lt : α → α → Bool) : List α → List α
  | [] => []
  | x :: r => insB lt x (srtB lt r)
theorem insB_perm (lt : α → α → Bool) (x : α) : ∀ l : List α, (insB lt x l).Perm (x :: l)
  | [] => List.Perm.refl _
  | y :: r => by
    unfold insB
    split
    · exact ((insB_perm lt x r).cons y).trans (List.Perm.swap x y r)
    · exact List.Perm.refl _
theorem insB_srtd {lt : α → α → Bool} (O : Swo lt) (x : α) : ∀ {l : List α}, Srtd lt l → Srtd lt (insB lt x l)
  | [], _ => List.pairwise_singleton _ _
  | y :: r, h => by
    obtain ⟨h1, h2⟩ := List.pairwise_cons.mp h
    unfold insB
    split
    · rename_i c
      refine List.pairwise_cons.mpr ⟨fun z hz => ?_, insB_srtd O x h2⟩
      rcases List.mem_cons.mp ((insB_perm lt x r).mem_iff.mp hz) with rfl | hz
      · exact O.asym _ _ c
      · exact h1 z hz
    · rename_i c
      have c' : lt y x = false := by
        cases q : lt y x with
        | true => exact absurd q c
        | false => rfl
      refine List.pairwise_cons.mpr ⟨fun z hz => ?_, h⟩
      rcases List.mem_cons.mp hz with rfl | hz
      · exact c'
      · exact O.tr x y z c' (h1 z hz)
theorem insB_stb {lt : α → α → Bool} (O : Swo lt) (x : α) : ∀ l : List α, Stb lt (insB lt x l) (x :: l)
  | [] => ⟨List.Perm.refl _, fun _ => rfl⟩
  | y :: r => by
    refine ⟨insB_perm lt x (y :: r), fun z => ?_⟩
    unfold insB
    split
    · rename_i c
      have ih := (insB_stb O x r).cls z
      rw [List.filter_cons, ih]
      by_cases hy : SrtO.eqv lt z y = true
      · have hx : ¬ SrtO.eqv lt z x = true := fun hx => by
          have e := SrtO.eqv_trans O (u := y) (v := x) hy
          rw [hx] at e
          have e' := e.symm
          unfold SrtO.eqv at e'
          rw [c] at e'
          simp at e'
        simp [List.filter_cons, hy, hx]
      · by_cases hx : SrtO.eqv lt z x = true
        · simp [List.filter_cons, hy, hx]
        · simp [List.filter_cons, hy, hx]
    · rfl
theorem srtB_ok {lt : α → α → Bool} (O : Swo lt) : ∀ l : List α, Srtd lt (srtB lt l) ∧ Stb lt (srtB lt l) l
  | [] => ⟨List.Pairwise.nil, List.Perm.refl _, fun _ => rfl⟩
  | x :: r => by
    obtain ⟨h1, h2⟩ := srtB_ok O r
    refine ⟨insB_srtd O x h1, ?_⟩
    have q := insB_stb O x (srtB lt r)
    refine ⟨q.perm.trans (h2.perm.cons x), fun z => ?_⟩
    show List.filter (SrtO.eqv lt z) (insB lt x (srtB lt r)) = _
    rw [q.cls z, List.filter_cons, List.filter_cons, h2.cls z]
theorem insB_map (lt : β → β → Bool) (f : α → β) (x : α) : ∀ l : List α, (insB (fun a c => lt (f a) (f c)) x l).map f = insB lt (f x) (l.map f)
  | [] => rfl
  | y :: r => by
    show (if lt (f y) (f x) = true then y :: insB _ x r else x :: y :: r).map f = if lt (f y) (f x) = true then f y :: insB lt (f x) (r.map f) else f x :: f y :: r.map f
    by_cases c : lt (f y) (f x) = true
    · rw [if_pos c, if_pos c, List.map_cons, insB_map lt f x r]
    · rw [if_neg c, if_neg c]
      rfl
theorem srtB_map (lt : β → β → Bool) (f : α → β) : ∀ l : List α, (srtB (fun a c => lt (f a) (f c)) l).map f = srtB lt (l.map f)
  | [] => rfl
  | x :: r => by
    show (insB _ x (srtB _ r)).map f = insB lt (f x) (srtB lt (r.map f))
    rw [insB_map, srtB_map lt f r]
end

/-! ### the order of trees, total -/
def rk : D → Nat
  | .non => 0 | .bl _ => 1 | .int _ => 2 | .sym _ => 3 | .fn _ => 4 | .tup _ => 5 | .lst _ => 6 | .dct _ _ => 7 | .ins _ => 8
def kI : D → Int
  | .int i => i
  | _ => 0
def kS : D → Nat
  | .sym c => c.nn
  | _ => 0
def kL : D → List D
  | .tup l => l
  | _ => []
def cmpN : Nat → D → D → Ordering
  | 0, _, _ => .eq
  | n + 1, a, b => (compare (rk a) (rk b)).then ((compare (kI a) (kI b)).then ((compare (kS a) (kS b)).then (List.compareLex (cmpN n) (kL a) (kL b))))
theorem then_trans {α : Type} {c d : α → α → Ordering} (hc : Std.TransCmp c) (hd : Std.TransCmp d) : Std.TransCmp fun a b => (c a b).then (d a b) := by
  have sw : ∀ a b : α, (c a b).then (d a b) = ((c b a).then (d b a)).swap := fun a b => by
    rw [Std.OrientedCmp.eq_swap (cmp := c) (a := a) (b := b), Std.OrientedCmp.eq_swap (cmp := d) (a := a) (b := b)]
    cases c b a <;> cases d b a <;> rfl
  have le : ∀ x y z : α, ((c x y).then (d x y)).isLE = true → ((c y z).then (d y z)).isLE = true → ((c x z).then (d x z)).isLE = true := fun x y z h1 h2 => by
    have p1 : (c x y).isLE = true := by
      cases q : c x y with
      | gt => rw [q] at h1; cases h1
      | _ => rfl
    have p2 : (c y z).isLE = true := by
      cases q : c y z with
      | gt => rw [q] at h2; cases h2
      | _ => rfl
    have p3 := Std.TransCmp.isLE_trans p1 p2
    cases q : c x z with
    | gt => rw [q] at p3; cases p3
    | lt => rfl
    | eq =>
      -- both are equal
      have b1 : (c z x).isLE = true := by
        rw [Std.OrientedCmp.eq_swap (cmp := c) (a := z) (b := x), q]
        rfl
      have e1 : c x y = .eq := by
        have r := Std.TransCmp.isLE_trans p2 b1
        rw [Std.OrientedCmp.eq_swap (cmp := c) (a := y) (b := x)] at r
        cases q1 : c x y with
        | lt => rw [q1] at r; cases r
        | eq => rfl
        | gt => rw [q1] at p1; cases p1
      have e2 : c y z = .eq := by
        have r := Std.TransCmp.isLE_trans b1 p1
        rw [Std.OrientedCmp.eq_swap (cmp := c) (a := z) (b := y)] at r
        cases q1 : c y z with
        | lt => rw [q1] at r; cases r
        | eq => rfl
        | gt => rw [q1] at p2; cases p2
      rw [e1] at h1
      rw [e2] at h2
      exact Std.TransCmp.isLE_trans (cmp := d) h1 h2
  exact { eq_swap := fun {a b} => sw a b, isLE_trans := fun {a b c} => le a b c }
theorem on_trans {α β : Type} {c : β → β → Ordering} (hc : Std.TransCmp c) (f : α → β) : Std.TransCmp fun a b => c (f a) (f b) :=
  { eq_swap := fun {a b} => Std.OrientedCmp.eq_swap (cmp := c), isLE_trans := fun {a b d} h1 h2 => Std.TransCmp.isLE_trans (cmp := c) h1 h2 }
theorem cmpN_trans : ∀ n, Std.TransCmp (cmpN n)
  | 0 => { eq_swap := fun {a b} => rfl, isLE_trans := fun {a b c} _ _ => rfl }
  | n + 1 => by
    have ih := cmpN_trans n
    have ihL : Std.TransCmp (List.compareLex (cmpN n)) := inferInstance
    exact then_trans (on_trans (c := (compare : Nat → Nat → Ordering)) inferInstance rk) (then_trans (on_trans (c := (compare : Int → Int → Ordering)) inferInstance kI)
      (then_trans (on_trans (c := (compare : Nat → Nat → Ordering)) inferInstance kS) (on_trans ihL kL)))
theorem cmpN_int (n : Nat) (i j : Int) : cmpN (n + 1) (.int i) (.int j) = compare i j := by
  show (compare 2 2).then ((compare i j).then ((compare 0 0).then (List.compareLex (cmpN n) [] []))) = _
  cases compare i j <;> rfl
theorem cmpN_sym (n : Nat) (i j : Sym) : cmpN (n + 1) (.sym i) (.sym j) = compare i.nn j.nn := by
  show (compare 3 3).then ((compare (0 : Int) 0).then ((compare i.nn j.nn).then (List.compareLex (cmpN n) [] []))) = _
  cases i <;> cases j <;> rfl
theorem cmpN_tup (n : Nat) (l m : List D) : cmpN (n + 1) (.tup l) (.tup m) = List.compareLex (cmpN n) l m := rfl
def ltT (n : Nat) (a b : D) : Bool := (cmpN n a b).isLT
theorem ltT_swo (n : Nat) : Swo (ltT n) := by
  have T := cmpN_trans n
  refine ⟨fun x y h => ?_, fun x y z h1 h2 => ?_⟩
  · unfold ltT at h ⊢
    have e := Std.OrientedCmp.eq_swap (cmp := cmpN n) (a := x) (b := y)
    cases q : cmpN n x y with
    | lt =>
      rw [q] at e
      cases q2 : cmpN n y x with
      | lt => rw [q2] at e; cases e
      | eq => rfl
      | gt => rfl
    | eq => rw [q] at h; cases h
    | gt => rw [q] at h; cases h
  · unfold ltT at h1 h2 ⊢
    have a1 : (cmpN n x y).isLE = true := by
      rw [Std.OrientedCmp.eq_swap (cmp := cmpN n) (a := x) (b := y)]
      cases q : cmpN n y x with
      | lt => rw [q] at h1; cases h1
      | eq => rfl
      | gt => rfl
    have a2 : (cmpN n y z).isLE = true := by
      rw [Std.OrientedCmp.eq_swap (cmp := cmpN n) (a := y) (b := z)]
      cases q : cmpN n z y with
      | lt => rw [q] at h2; cases h2
      | eq => rfl
      | gt => rfl
    have a3 := Std.TransCmp.isLE_trans a1 a2
    rw [Std.OrientedCmp.eq_swap (cmp := cmpN n) (a := z) (b := x)]
    cases q : cmpN n x z with
    | lt => rfl
    | eq => rfl
    | gt => rw [q] at a3; cases a3
def dpt : Ty → Nat
  | .i => 1
  | .s => 1
  | .l t => dpt t + 1
  | .c t u => max (dpt t) (dpt u) + 1
theorem dpt_pos : ∀ t : Ty, 0 < dpt t
  | .i => Nat.one_pos
  | .s => Nat.one_pos
  | .l _ => Nat.succ_pos _
  | .c _ _ => Nat.succ_pos _
theorem sym_nn {i j : Sym} : (compare i.nn j.nn == .eq) = Nat.beq i.nn j.nn ∧ (compare i.nn j.nn).isLT = Nat.blt i.nn j.nn := by
  cases i <;> cases j <;> decide
theorem int_cmp2 (i j : Int) : (compare i j == .eq) = ieq i j ∧ (compare i j).isLT = ilt i j := by
  rw [ieq_iff, ilt_iff]
  refine ⟨?_, ?_⟩
  · by_cases e : i = j
    · subst e; simp
    · have : compare i j ≠ .eq := fun q => e (Int.compare_eq_eq.mp q)
      rw [show (compare i j == Ordering.eq) = false from beq_eq_false_iff_ne.mpr this]
      exact (beq_eq_false_iff_ne.mpr e).symm
  · by_cases e : i < j
    · rw [decide_eq_true e, Int.compare_eq_lt.mpr e]
      rfl
    · rw [decide_eq_false e]
      cases q : compare i j with
      | lt => exact absurd (Int.compare_eq_lt.mp q) e
      | eq => rfl
      | gt => rfl
/-- typed trees compare, and the machine's == and < are the order's -/
theorem typed : ∀ (t : Ty) (n : Nat) (a b : D), dpt t ≤ n → hasTy t a = true → hasTy t b = true → eqD n a b = some (cmpN n a b == .eq) ∧ ltD n a b = some (cmpN n a b).isLT
  | t, 0, _, _, h, _, _ => absurd (dpt_pos t) (by omega)
  | .i, n + 1, a, b, _, ha, hb => by
    cases a <;> first | (simp [hasTy] at ha; done) | skip
    cases b <;> first | (simp [hasTy] at hb; done) | skip
    rename_i i j
    rw [cmpN_int]
    exact ⟨congrArg some (int_cmp2 i j).1.symm, congrArg some (int_cmp2 i j).2.symm⟩
  | .s, n + 1, a, b, _, ha, hb => by
    cases a <;> first | (simp [hasTy] at ha; done) | skip
    cases b <;> first | (simp [hasTy] at hb; done) | skip
    rename_i i j
    rw [cmpN_sym]
    exact ⟨congrArg some sym_nn.1.symm, congrArg some sym_nn.2.symm⟩
  | .l t, n + 1, a, b, hd, ha, hb => by
    cases a <;> first | (simp [hasTy] at ha; done) | skip
    cases b <;> first | (simp [hasTy] at hb; done) | skip
    rename_i l m
    have hd' : dpt t ≤ n := by simp only [dpt] at hd; omega
    have hl : ∀ d ∈ l, hasTy t d = true := by simpa [hasTy] using ha
    have hm : ∀ d ∈ m, hasTy t d = true := by simpa [hasTy] using hb
    show eqL (eqD n) l m = some (List.compareLex (cmpN n) l m == .eq) ∧ ltL (eqD n) (ltD n) l m = some (List.compareLex (cmpN n) l m).isLT
    clear ha hb
    induction l generalizing m with
    | nil => cases m <;> exact ⟨rfl, rfl⟩
    | cons x l ih =>
      cases m with
      | nil => exact ⟨rfl, rfl⟩
      | cons y m =>
        obtain ⟨e1, e2⟩ := typed t n x y hd' (hl x List.mem_cons_self) (hm y List.mem_cons_self)
        obtain ⟨k1, k2⟩ := ih m (fun d hd => hl d (List.mem_cons_of_mem _ hd)) fun d hd => hm d (List.mem_cons_of_mem _ hd)
        rw [List.compareLex_cons_cons, eqL, ltL, e1, e2]
        cases q : cmpN n x y with
        | lt => exact ⟨rfl, rfl⟩
        | gt => exact ⟨rfl, rfl⟩
        | eq => exact ⟨k1, k2⟩
  | .c t u, n + 1, a, b, hd, ha, hb => by
    have hd' : dpt t ≤ n ∧ dpt u ≤ n := by simp only [dpt] at hd; omega
    cases a <;> first | (simp [hasTy] at ha; done) | skip
    cases b <;> first | (simp [hasTy] at hb; done) | skip
    rename_i l m
    match l, m, ha, hb with
    | [x, x'], [y, y'], ha, hb =>
      have h1 : hasTy t x = true ∧ hasTy u x' = true := by simpa [hasTy] using ha
      have h2 : hasTy t y = true ∧ hasTy u y' = true := by simpa [hasTy] using hb
      obtain ⟨e1, e2⟩ := typed t n x y hd'.1 h1.1 h2.1
      obtain ⟨k1, k2⟩ := typed u n x' y' hd'.2 h1.2 h2.2
      show eqL (eqD n) [x, x'] [y, y'] = some (List.compareLex (cmpN n) [x, x'] [y, y'] == .eq) ∧ ltL (eqD n) (ltD n) [x, x'] [y, y'] = some (List.compareLex (cmpN n) [x, x'] [y, y']).isLT
      rw [List.compareLex_cons_cons, List.compareLex_cons_cons, eqL, ltL, e1, e2]
      cases q : cmpN n x y with
      | lt => exact ⟨rfl, rfl⟩
      | gt => exact ⟨rfl, rfl⟩
      | eq =>
        show eqL (eqD n) [x'] [y'] = _ ∧ ltL (eqD n) (ltD n) [x'] [y'] = _
        rw [eqL, ltL, k1, k2]
        cases q2 : cmpN n x' y' with
        | lt => exact ⟨rfl, rfl⟩
        | gt => exact ⟨rfl, rfl⟩
        | eq => exact ⟨rfl, rfl⟩
theorem insD_eq {x : D} : ∀ {l : List D}, (∀ y ∈ l, ltv y x = some (ltT 8 y x)) → insD x l = some (insB (ltT 8) x l)
  | [], _ => rfl
  | y :: r, h => by
    rw [insD, insB, h y List.mem_cons_self]
    cases q : ltT 8 y x with
    | true =>
      rw [insD_eq fun z hz => h z (List.mem_cons_of_mem _ hz)]
      rfl
    | false => rfl
theorem sortD_eq {t : Ty} (ht : dpt t ≤ 8) : ∀ {l : List D}, (∀ d ∈ l, hasTy t d = true) → sortD l = some (srtB (ltT 8) l)
  | [], _ => rfl
  | x :: r, h => by
    rw [sortD, sortD_eq ht fun d hd => h d (List.mem_cons_of_mem _ hd)]
    show insD x (srtB (ltT 8) r) = _
    refine insD_eq fun y hy => ?_
    have hy' : y ∈ r := (srtB_ok (ltT_swo 8) r).2.perm.mem_iff.mp hy
    exact (typed t 8 y x ht (h y (List.mem_cons_of_mem _ hy')) (h x List.mem_cons_self)).2
end Tee
set_option maxRecDepth 100000
set_option maxHeartbeats 4000000
/-! sorted over trees, at the model's exactness. -/
namespace Tee
open PySem PySem.SeqAt PyProof.Rows
open SrtO (Swo Srtd Stb Cmp lt2 SortableO)


/-- the first items: ints, or tuples -/
def headI : Ty → Bool
  | .l .i => true
  | .c .i _ => true
  | _ => false
def headOk : Ty → Bool
  | .l .i => true
  | .l (.l _) => true
  | .l (.c _ _) => true
  | .c .i _ => true
  | .c (.l _) _ => true
  | .c (.c _ _) _ => true
  | _ => false
mutual
theorem at_inj {h : Heap} : ∀ (t : Ty) (d e : D) (u : Value), hasTy t d = true → hasTy t e = true → At h d u → At h e u → d = e
  | .i, d, e, u, hd, he, ad, ae => by
    cases d <;> first | (simp [hasTy] at hd; done) | skip
    cases e <;> first | (simp [hasTy] at he; done) | skip
    simp only [At] at ad ae
    obtain ⟨a, rfl⟩ := ad
    obtain ⟨b, z⟩ := ae
    injection z with z _
    rw [z]
  | .s, d, e, u, hd, he, ad, ae => by
    cases d <;> first | (simp [hasTy] at hd; done) | skip
    cases e <;> first | (simp [hasTy] at he; done) | skip
    rename_i i j
    simp only [At] at ad ae
    obtain ⟨a, rfl⟩ := ad
    obtain ⟨b, z⟩ := ae
    have q : i.str = j.str := by injection z
    have q2 : (i.str == j.str) = true := by rw [q]; simp
    rw [← sym_eq] at q2
    cases i <;> cases j <;> first | rfl | (exact absurd q2 (by decide))
  | .l t, d, e, u, hd, he, ad, ae => by
    cases d <;> first | (simp [hasTy] at hd; done) | skip
    cases e <;> first | (simp [hasTy] at he; done) | skip
    rename_i l m
    simp only [At] at ad ae
    obtain ⟨a, its, rfl, ⟨o, o1, _, _, o2⟩, r⟩ := ad
    obtain ⟨b, its2, z, ⟨o', o3, _, _, o4⟩, r2⟩ := ae
    cases z
    rw [o1] at o3
    cases o3
    rw [o2] at o4
    cases o4
    have hl : ∀ d ∈ l, hasTy t d = true := by simpa [hasTy] using hd
    have hm : ∀ d ∈ m, hasTy t d = true := by simpa [hasTy] using he
    have key : ∀ (l m : List D) (us : List Value), (∀ d ∈ l, hasTy t d = true) → (∀ d ∈ m, hasTy t d = true) → AtL h l us → AtL h m us → l = m := by
      intro l
      induction l with
      | nil =>
        intro m us _ _ r r2
        simp only [AtL] at r
        subst r
        cases m with
        | nil => rfl
        | cons d m =>
          simp only [AtL] at r2
          obtain ⟨_, _, z, _⟩ := r2
          cases z
      | cons d l ih =>
        intro m us hl hm r r2
        simp only [AtL] at r
        obtain ⟨u, us', rfl, q1, q2⟩ := r
        cases m with
        | nil =>
          simp only [AtL] at r2
          cases r2
        | cons e m =>
          simp only [AtL] at r2
          obtain ⟨v, vs', z, k1, k2⟩ := r2
          cases z
          rw [at_inj t d e u (hl d List.mem_cons_self) (hm e List.mem_cons_self) q1 k1, ih m us' (fun x hx => hl x (List.mem_cons_of_mem _ hx)) (fun x hx => hm x (List.mem_cons_of_mem _ hx)) q2 k2]
    rw [key l m _ hl hm r r2]
  | .c t w, d, e, u, hd, he, ad, ae => by
    cases d <;> first | (simp [hasTy] at hd; done) | skip
    cases e <;> first | (simp [hasTy] at he; done) | skip
    rename_i l m
    match l, m, hd, he, ad, ae with
    | [x, x'], [y, y'], hd, he, ad, ae =>
      have h1 : hasTy t x = true ∧ hasTy w x' = true := by simpa [hasTy] using hd
      have h2 : hasTy t y = true ∧ hasTy w y' = true := by simpa [hasTy] using he
      simp only [At, AtL] at ad ae
      obtain ⟨a, its, rfl, ⟨o, o1, _, _, o2⟩, u1, r1, e1, q1, u2, r2, e2, q2, e3⟩ := ad
      obtain ⟨b, its2, z, ⟨o', o3, _, _, o4⟩, v1, t1, f1, k1, v2, t2, f2, k2, f3⟩ := ae
      cases z
      rw [o1] at o3
      cases o3
      rw [o2] at o4
      cases o4
      rw [e1] at f1
      injection f1 with g1 g2
      subst g1 g2
      rw [e2] at f2
      injection f2 with g1 g2
      subst g1 g2
      rw [at_inj t x y _ h1.1 h2.1 q1 k1, at_inj w x' y' _ h1.2 h2.2 q2 k2]
end
-- the tree at a value
open Classical in
noncomputable def dec (h : Heap) (t : Ty) (u : Value) : D := if q : ∃ d, hasTy t d = true ∧ At h d u then Classical.choose q else .non
theorem dec_eq {h : Heap} {t : Ty} {u : Value} {d : D} (hd : hasTy t d = true) (ha : At h d u) : dec h t u = d := by
  have q : ∃ d, hasTy t d = true ∧ At h d u := ⟨d, hd, ha⟩
  unfold dec
  rw [dif_pos q]
  obtain ⟨q1, q2⟩ := Classical.choose_spec q
  exact at_inj t _ _ u q1 hd q2 ha

section
variable {prog : Program} {w : World} {A : Around} {E : Value → Shared → Prop} {s : Shared}
theorem oneLt_rc {u v : Value} {r : Bool} {Q : Bool → Shared → Prop} (h : Ob.RcOp .Lt A s u v r) (q : Q r s) : wpAny (model prog w) A (oneLt' false u v) Q E s :=
  PySem.W.kat_one u v (h prog w E _ (show PySem.W.BoolBack Q (.bool r) s from q))
theorem kat_tree {b : Bool} {n : Nat} (hu : A.units + n < cLine) : ∀ (l m : List D) (us vs : List Value) (i : Nat) (r : Bool) (Q : Bool → Shared → Prop), ltL (eqD n) (ltD n) l m = some r → AtL s.heap l us → AtL s.heap m vs →
    ((b && i == 0) = true → ∀ d e, l[0]? = some d → m[0]? = some e → (∃ x, d = .int x) ∧ ∃ y, e = .int y) → Q r s →
    PySem.W.KatLex prog w A b (decide (us.length < vs.length)) Q (us.zip vs) i s := by
  intro l
  induction l with
  | nil =>
    intro m us vs i r Q h hl hm _ q
    simp only [AtL] at hl
    subst hl
    cases m with
    | nil =>
      simp only [AtL] at hm
      subst hm
      have h' : some false = some r := h
      rw [← Option.some.inj h'] at q
      exact PySem.W.kat_nil q
    | cons d m =>
      simp only [AtL] at hm
      obtain ⟨v, vs', rfl, _⟩ := hm
      have h' : some true = some r := h
      rw [← Option.some.inj h'] at q
      exact PySem.W.kat_nil q
  | cons d l ih =>
    intro m us vs i r Q h hl hm hb q
    simp only [AtL] at hl
    obtain ⟨u, us', rfl, h1, h2⟩ := hl
    cases m with
    | nil =>
      simp only [AtL] at hm
      subst hm
      have h' : some false = some r := h
      rw [← Option.some.inj h'] at q
      exact PySem.W.kat_nil q
    | cons d2 m =>
      simp only [AtL] at hm
      obtain ⟨v, vs', rfl, k1, k2⟩ := hm
      rw [ltL] at h
      cases e : eqD n d d2 with
      | none =>
        rw [e] at h
        cases h
      | some c =>
        rw [e] at h
        refine PySem.W.kat_cons (eqAt_tree n d d2 u v c A s e h1 k1 hu prog w _ _ ?_)
        cases c with
        | true =>
          refine PySem.W.kat_yes ?_
          have e2 : decide ((u :: us').length < (v :: vs').length) = decide (us'.length < vs'.length) := by simp
          rw [e2]
          refine ih m us' vs' (i + 1) r Q h h2 k2 (fun z => ?_) q
          simp at z
        | false =>
          refine PySem.W.kat_no ?_
          cases hbi : (b && i == 0) with
          | false => exact oneLt_rc (rcLt_tree n d d2 u v r A s h h1 k1 hu) q
          | true =>
            obtain ⟨⟨x, rfl⟩, y, rfl⟩ := hb hbi d d2 rfl rfl
            simp only [At] at h1 k1
            obtain ⟨t, rfl⟩ := h1
            obtain ⟨t', rfl⟩ := k1
            have hr : decide (x < y) = r := by
              cases n with
              | zero => simp [ltD] at h
              | succ n =>
                have h' : some (ilt x y) = some r := h
                rw [← Option.some.inj h', ilt_iff]
            exact PyProof.Rows.oneLt_int (by rw [hr]; exact q)
/-- the first items of full typed tuples -/
theorem firsts_tree {h : Heap} {t : Ty} (ho : headOk t = true) : ∀ (ds : List D) (vs : List Value), AtL h ds vs → (∀ d ∈ ds, hasTy t d = true ∧ full d = true) →
    ∃ fs, PySem.W.KatTups h vs fs ∧ fs.length = vs.length ∧ ∀ f ∈ fs, if headI t = true then (∃ i k, f = .int i k) else ∃ a o, f = .ref a ∧ h.get? a = some o ∧ o.cls = .type "tuple"
  | [], vs, ha, _ => by
    simp only [AtL] at ha
    subst ha
    exact ⟨[], PySem.W.KatTups.nil, rfl, fun f hf => absurd hf (by simp)⟩
  | d :: ds, vs, ha, hd => by
    simp only [AtL] at ha
    obtain ⟨u, us, rfl, h1, h2⟩ := ha
    obtain ⟨fs, f1, f2, f3⟩ := firsts_tree ho ds us h2 fun e he => hd e (List.mem_cons_of_mem _ he)
    obtain ⟨k1, k2⟩ := hd d List.mem_cons_self
    match d, k1, k2, h1 with
    | .tup (x :: l), k1, _, h1 =>
      simp only [At] at h1
      obtain ⟨a, its, rfl, ⟨o, o1, o2, n, o3⟩, r⟩ := h1
      simp only [AtL] at r
      obtain ⟨f, r', e, q1, _⟩ := r
      have e0 : its[0]? = some f := by
        rw [← Array.getElem?_toList, e]
        rfl
      refine ⟨f :: fs, PySem.W.KatTups.cons o1 o2 o3 e0 f1, by simp [f2], fun g hg => ?_⟩
      rcases List.mem_cons.mp hg with rfl | hg
      · have tup : ∀ z : Ty, (∃ y, z = .l y) ∨ (∃ y y', z = .c y y') → hasTy z x = true → ∃ a o, g = .ref a ∧ h.get? a = some o ∧ o.cls = .type "tuple" := fun z hz hx => by
          cases x <;> first | (rcases hz with ⟨y, rfl⟩ | ⟨y, y', rfl⟩ <;> simp [hasTy] at hx; done) | skip
          simp only [At] at q1
          obtain ⟨a, i2, e1, ⟨o, o1, o2, _⟩, _⟩ := q1
          exact ⟨a, o, e1, o1, o2⟩
        have int : hasTy .i x = true → ∃ i k, g = .int i k := fun hx => by
          cases x <;> first | (simp [hasTy] at hx; done) | skip
          simp only [At] at q1
          obtain ⟨k, e1⟩ := q1
          exact ⟨_, k, e1⟩
        have first : ∀ z : Ty, (t = .l z ∨ ∃ y, t = .c z y) → hasTy z x = true := fun z hz => by
          rcases hz with rfl | ⟨y, rfl⟩
          · have : ∀ d ∈ x :: l, hasTy z d = true := by simpa [hasTy] using k1
            exact this x List.mem_cons_self
          · match l, k1 with
            | [x'], k1 =>
              have : hasTy z x = true ∧ hasTy y x' = true := by simpa [hasTy] using k1
              exact this.1
        match t, ho with
        | .l .i, _ => exact int (first .i (.inl rfl))
        | .l (.l z), _ => exact tup (.l z) (.inl ⟨z, rfl⟩) (first (.l z) (.inl rfl))
        | .l (.c z y), _ => exact tup (.c z y) (.inr ⟨z, y, rfl⟩) (first (.c z y) (.inl rfl))
        | .c .i y, _ => exact int (first .i (.inr ⟨y, rfl⟩))
        | .c (.l z) y, _ => exact tup (.l z) (.inl ⟨z, rfl⟩) (first (.l z) (.inr ⟨y, rfl⟩))
        | .c (.c z z') y, _ => exact tup (.c z z') (.inr ⟨z, z', rfl⟩) (first (.c z z') (.inr ⟨y, rfl⟩))
      · exact f3 g hg
/-- any two of the items compare as the order says -/
theorem cmp_tree {t : Ty} {b : Bool} (ho : headOk t = true) (hb : b = headI t) (ht : dpt t ≤ 8) (hu : A.units + 8 < cLine) {ds : List D} {vs : List Value} (ha : AtL s.heap ds vs) (hd : ∀ d ∈ ds, hasTy t d = true ∧ full d = true) {κ : Value → Value → Bool}
    (hk : ∀ d e u v, u ∈ vs → v ∈ vs → d ∈ ds → e ∈ ds → At s.heap d u → At s.heap e v → κ u v = ltT 8 d e) : Cmp prog w A s (tuples' b) (fun p => p.1 ∈ vs) (lt2 κ) := by
  intro p q hp hq
  obtain ⟨d, md, ad⟩ := ha.mem p.1 hp
  obtain ⟨e, me, ae⟩ := ha.mem q.1 hq
  show wpAny (model prog w) A (keyLt' (tuples' b) p.1 q.1) (fun r s' => s' = s ∧ r = κ p.1 q.1) (fun _ _ => False) s
  rw [hk d e p.1 q.1 hp hq md me ad ae]
  generalize p.1 = x at ad ⊢
  generalize q.1 = y at ae ⊢
  have z := (typed t 8 d e ht (hd d md).1 (hd e me).1).2
  obtain ⟨d1, d2⟩ := hd d md
  obtain ⟨e1, e2⟩ := hd e me
  match d, d2, e, e2, d1, e1, ad, ae, z with
  | .tup (d0 :: l), _, .tup (e0 :: m), _, d1, e1, ad, ae, z =>
    simp only [At] at ad ae
    obtain ⟨a, its, rfl, ⟨o, o1, _, n, o2⟩, r⟩ := ad
    obtain ⟨a', its', rfl, ⟨o', o3, _, n', o4⟩, r'⟩ := ae
    refine PySem.W.kat_lt o1 o2 o3 o4 ?_
    have k := kat_tree (prog := prog) (w := w) (b := b) (n := 7) (s := s) (A := A) (by omega) (d0 :: l) (e0 :: m) its.toList its'.toList 0 _ (fun r s' => s' = s ∧ r = ltT 8 (.tup (d0 :: l)) (.tup (e0 :: m))) z r r' (fun hb' x y hx hy => ?_) ⟨rfl, rfl⟩
    · rw [Array.length_toList, Array.length_toList] at k
      exact k
    · have ex : d0 = x := by simpa using hx
      have ey : e0 = y := by simpa using hy
      subst ex ey
      have hI : headI t = true := by
        rw [← hb]
        cases b with
        | true => rfl
        | false => cases hb'
      have int : ∀ z, hasTy .i z = true → ∃ i, z = D.int i := fun z hz => by
        cases z <;> first | (simp [hasTy] at hz; done) | exact ⟨_, rfl⟩
      match t, hI, d1, e1 with
      | .l .i, _, d1, e1 =>
        have k1 : ∀ d ∈ d0 :: l, hasTy .i d = true := by simpa [hasTy] using d1
        have k2 : ∀ d ∈ e0 :: m, hasTy .i d = true := by simpa [hasTy] using e1
        exact ⟨int _ (k1 _ List.mem_cons_self), int _ (k2 _ List.mem_cons_self)⟩
      | .c .i u, _, d1, e1 =>
        match l, m, d1, e1 with
        | [x'], [y'], d1, e1 =>
          have k1 : hasTy .i d0 = true ∧ hasTy u x' = true := by simpa [hasTy] using d1
          have k2 : hasTy .i e0 = true ∧ hasTy u y' = true := by simpa [hasTy] using e1
          exact ⟨int _ k1.1, int _ k2.1⟩
/-- typed full trees can be sorted -/
theorem sortable_tree {t : Ty} {a : Addr} (ho : headOk t = true) (ht : dpt t ≤ 8) (hu : A.units + 8 < cLine) {ds : List D} {vs : List Value} (h0 : 0 < vs.length) (ha : AtL s.heap ds vs) (hd : ∀ d ∈ ds, hasTy t d = true ∧ full d = true)
    (hna : ∀ o, s.heap.get? a = some o → o.cls ≠ .type "tuple") {κ : Value → Value → Bool} (hk : ∀ d e u v, u ∈ vs → v ∈ vs → d ∈ ds → e ∈ ds → At s.heap d u → At s.heap e v → κ u v = ltT 8 d e) : SortableO prog w A s a vs κ := by
  intro h' keep
  have kp : ∀ b o, s.heap.get? b = some o → o.cls = .type "tuple" → h'.get? b = some o := fun b o e c => keep b o (fun z => by subst z; exact hna o e c) e
  have ha' : AtL h' ds vs := AtL.keep kp ds ha
  obtain ⟨fs, f1, f2, f3⟩ := firsts_tree ho ds vs ha' hd
  refine ⟨tuples' (headI t), fun Q E hq => ?_, ?_⟩
  · cases hI : headI t with
    | true =>
      rw [hI] at hq f3
      refine PySem.W.kat_kind (T := .type "int") f1 (by omega) (fun f hm => ?_) (by rfl) ?_
      · obtain ⟨x, k, rfl⟩ := (by simpa using f3 f hm : ∃ i k, f = .int i k)
        exact PySem.W.Looks.now
      · have e : (Value.type "int" != Value.type "tuple") = true := by decide
        rw [e]
        exact hq
    | false =>
      rw [hI] at hq f3
      refine PySem.W.kat_kind (T := .type "tuple") f1 (by omega) (fun f hm => ?_) (by rfl) ?_
      · obtain ⟨x, o, rfl, e1, e2⟩ := (by simpa using f3 f hm : ∃ a o, f = .ref a ∧ h'.get? a = some o ∧ o.cls = .type "tuple")
        intro A Q E s' k q
        exact wpAny_typeOf (show s'.TypeIs (.ref x) "tuple" from ⟨o, k _ _ e1, e2⟩) q
      · have e : (Value.type "tuple" != Value.type "tuple") = false := by decide
        rw [e]
        exact hq
  · have back : ∀ d u, d ∈ ds → u ∈ vs → At h' d u → At s.heap d u := fun d u md mu ad => by
      obtain ⟨d0, m0, a0⟩ := ha.mem u mu
      have e := at_inj t d d0 u (hd d md).1 (hd d0 m0).1 ad (At.keep kp d0 a0)
      rw [e]
      exact a0
    exact cmp_tree (s := { s with heap := h' }) (prog := prog) (w := w) ho rfl ht hu ha' hd (κ := κ) fun d e u v mu mv md me ad ae => hk d e u v mu mv md me (back d u md mu ad) (back e v me mv ae)
end
/-- the sorted values, by their trees -/
theorem sorted_pairs {h : Heap} {t : Ty} (ht : dpt t ≤ 8) {ds : List D} {vs : List Value} (ha : AtL h ds vs) (hd : ∀ d ∈ ds, hasTy t d = true) {out : List Value}
    (h1 : Srtd (fun v u => ltT 8 (dec h t v) (dec h t u)) out) (h2 : Stb (fun v u => ltT 8 (dec h t v) (dec h t u)) out vs) :
    ∃ zs, sortD ds = some zs ∧ ∃ P : List (D × Value), P.Perm (ds.zip vs) ∧ zs = P.map (·.1) ∧ out = P.map (·.2) := by
  have O : Swo (fun v u => ltT 8 (dec h t v) (dec h t u)) := ⟨fun x y => (ltT_swo 8).asym _ _, fun x y z => (ltT_swo 8).tr _ _ _⟩
  have len := ha.len
  refine ⟨_, sortD_eq ht hd, srtB (fun p q : D × Value => ltT 8 p.1 q.1) (ds.zip vs), (srtB_ok (lt := fun p q : D × Value => ltT 8 p.1 q.1) ⟨fun x y => (ltT_swo 8).asym _ _, fun x y z => (ltT_swo 8).tr _ _ _⟩ _).2.perm, ?_, ?_⟩
  · rw [srtB_map (ltT 8) (fun p : D × Value => p.1)]
    rw [List.map_fst_zip (by omega)]
  · -- both are the one sorted rearrangement
    have e : srtB (fun p q : D × Value => ltT 8 p.1 q.1) (ds.zip vs) = srtB (fun p q : D × Value => ltT 8 (dec h t p.2) (dec h t q.2)) (ds.zip vs) := by
      have ok : ∀ p ∈ ds.zip vs, dec h t p.2 = p.1 := by
        have go : ∀ (ds : List D) (vs : List Value), AtL h ds vs → (∀ d ∈ ds, hasTy t d = true) → ∀ p ∈ ds.zip vs, dec h t p.2 = p.1 := by
          intro ds
          induction ds with
          | nil => intro vs _ _ p hp; simp at hp
          | cons d ds ih =>
            intro vs ha hd p hp
            simp only [AtL] at ha
            obtain ⟨u, us, rfl, q1, q2⟩ := ha
            rw [List.zip_cons_cons] at hp
            rcases List.mem_cons.mp hp with rfl | hp
            · exact dec_eq (hd d List.mem_cons_self) q1
            · exact ih us q2 (fun e he => hd e (List.mem_cons_of_mem _ he)) p hp
        exact go ds vs ha hd
      have gen : ∀ (l : List (D × Value)), (∀ p ∈ l, dec h t p.2 = p.1) → srtB (fun p q : D × Value => ltT 8 p.1 q.1) l = srtB (fun p q : D × Value => ltT 8 (dec h t p.2) (dec h t q.2)) l := by
        intro l
        induction l with
        | nil => intro _; rfl
        | cons x r ih =>
          intro hl
          have ih' := ih fun p hp => hl p (List.mem_cons_of_mem _ hp)
          show insB _ x (srtB _ r) = insB _ x (srtB _ r)
          rw [ih']
          have ins : ∀ (m : List (D × Value)), (∀ p ∈ m, dec h t p.2 = p.1) → insB (fun p q : D × Value => ltT 8 p.1 q.1) x m = insB (fun p q : D × Value => ltT 8 (dec h t p.2) (dec h t q.2)) x m := by
            intro m
            induction m with
            | nil => intro _; rfl
            | cons y m im =>
              intro hm
              show (if ltT 8 y.1 x.1 = true then y :: insB _ x m else x :: y :: m) = if ltT 8 (dec h t y.2) (dec h t x.2) = true then y :: insB _ x m else x :: y :: m
              rw [hm y List.mem_cons_self, hl x List.mem_cons_self, im fun p hp => hm p (List.mem_cons_of_mem _ hp)]
          refine ins _ fun p hp => hl p (List.mem_cons_of_mem _ ?_)
          exact (srtB_ok (lt := fun p q : D × Value => ltT 8 (dec h t p.2) (dec h t q.2)) ⟨fun x y => (ltT_swo 8).asym _ _, fun x y z => (ltT_swo 8).tr _ _ _⟩ r).2.perm.mem_iff.mp hp
      exact gen _ ok
    rw [e, srtB_map (fun v u => ltT 8 (dec h t v) (dec h t u)) (fun p : D × Value => p.2), List.map_snd_zip (by omega)]
    obtain ⟨k1, k2⟩ := srtB_ok O vs
    exact SrtO.stb_uniq O h1 k1 ⟨h2.perm.trans k2.perm.symm, fun x => by rw [h2.cls x, k2.cls x]⟩
end Tee
set_option maxRecDepth 100000
set_option maxHeartbeats 4000000
/-! Trees as keys. -/
namespace Tee
open PySem PySem.SeqAt PyProof.Rows

mutual
def drawD : D → Nat
  | .tup l => drawL l + 1
  | .int _ => 1
  | .sym _ => 1
  | .non => 1
  | .bl _ => 1
  | .fn _ => 1
  | .lst _ => 1
  | .dct _ _ => 1
  | .ins _ => 1
def drawL : List D → Nat
  | [] => 0
  | d :: l => drawD d + drawL l
end
theorem keyD_tup {n : Nat} {l : List D} (h : keyD n (.tup l) = true) : ∃ m, n = m + 1 ∧ ∀ d ∈ l, keyD m d = true := by
  cases n with
  | zero => simp [keyD] at h
  | succ m => exact ⟨m, rfl, by simpa [keyD] using h⟩
/-- two keys, compared -/
theorem key_eqv : ∀ (n : Nat) (a b : D), keyD n a = true → keyD n b = true → ∃ r, eqD (n + 1) a b = some r ∧ (r = true ↔ a = b) := by
  intro n
  induction n with
  | zero =>
    intro a b ha hb
    cases a <;> first | (simp [keyD] at ha; done) | skip
    all_goals (cases b <;> first | (simp [keyD] at hb; done) | skip)
    · rename_i i j
      exact ⟨ieq i j, rfl, by rw [ieq_iff]; simp⟩
    · exact ⟨false, rfl, by simp⟩
    · exact ⟨false, rfl, by simp⟩
    · rename_i i j
      refine ⟨Nat.beq i.nn j.nn, rfl, ?_⟩
      cases i <;> cases j <;> simp [Sym.nn]
  | succ n ih =>
    intro a b ha hb
    have ls : ∀ (l m : List D), (∀ d ∈ l, keyD n d = true) → (∀ d ∈ m, keyD n d = true) → ∃ r, eqL (eqD (n + 1)) l m = some r ∧ (r = true ↔ l = m) := by
      intro l
      induction l with
      | nil =>
        intro m _ _
        cases m with
        | nil => exact ⟨true, rfl, by simp⟩
        | cons d m => exact ⟨false, rfl, by simp⟩
      | cons d l il =>
        intro m hl hm
        cases m with
        | nil => exact ⟨false, rfl, by simp⟩
        | cons e m =>
          obtain ⟨r, e1, e2⟩ := ih d e (hl d List.mem_cons_self) (hm e List.mem_cons_self)
          obtain ⟨r', e3, e4⟩ := il m (fun x hx => hl x (List.mem_cons_of_mem _ hx)) (fun x hx => hm x (List.mem_cons_of_mem _ hx))
          cases r with
          | true =>
            refine ⟨r', ?_, ?_⟩
            · rw [eqL, e1]
              exact e3
            · rw [e4, List.cons.injEq]
              exact ⟨fun z => ⟨e2.mp rfl, z⟩, fun z => z.2⟩
          | false =>
            refine ⟨false, ?_, ?_⟩
            · rw [eqL, e1]
            · refine ⟨fun z => (by cases z), fun z => ?_⟩
              injection z with z1 _
              exact e2.mpr z1
    cases a with
    | int i =>
      cases b with
      | int j => exact ⟨ieq i j, rfl, by rw [ieq_iff]; simp⟩
      | sym j => exact ⟨false, rfl, by simp⟩
      | tup m => exact ⟨false, rfl, by simp⟩
      | _ => simp [keyD] at hb
    | sym i =>
      cases b with
      | int j => exact ⟨false, rfl, by simp⟩
      | sym j =>
        refine ⟨Nat.beq i.nn j.nn, rfl, ?_⟩
        cases i <;> cases j <;> simp [Sym.nn]
      | tup m => exact ⟨false, rfl, by simp⟩
      | _ => simp [keyD] at hb
    | tup l =>
      cases b with
      | int j => exact ⟨false, rfl, by simp⟩
      | sym j => exact ⟨false, rfl, by simp⟩
      | tup m =>
        obtain ⟨_, e1, hl⟩ := keyD_tup ha
        obtain ⟨_, e2, hm⟩ := keyD_tup hb
        cases e1
        cases e2
        obtain ⟨r, q1, q2⟩ := ls l m hl hm
        exact ⟨r, q1, by rw [q2]; simp⟩
      | _ => simp [keyD] at hb
    | _ => simp [keyD] at ha
theorem key_inj {h : Heap} {n : Nat} {a b : D} {u : Value} (ha : keyD n a = true) (hb : keyD n b = true) (xa : At h a u) (xb : At h b u) : a = b := by
  obtain ⟨r, e1, e2⟩ := key_eqv n a b ha hb
  exact e2.mp (at_same (n + 1) a b u r e1 xa xb)
theorem AtL.all {h : Heap} {p : D → Bool} : ∀ {l : List D} {us : List Value}, AtL h l us → (∀ d ∈ l, p d = true) → ∀ u ∈ us, ∃ d, p d = true ∧ At h d u := fun x k u hu => by
  obtain ⟨d, m, y⟩ := x.mem u hu
  exact ⟨d, k d m, y⟩

section
variable {prog : Program} {w : World} {A : Around} {E : Value → Shared → Prop} {s : Shared}
/-- hash of a key -/
theorem hash_tree : ∀ (n : Nat) (d : D) (u : Value) (A : Around) (s : Shared) (Q : Int → Shared → Prop), keyD n d = true → At s.heap d u → A.units + n < cLine → Q (hashD w d) { s with toks := s.toks + drawD d } → wpAny (model prog w) A (pyHash u) Q E s := by
  intro n
  induction n with
  | zero =>
    intro d u A s Q hd ha hu h
    cases d <;> first | (simp [keyD] at hd; done) | skip
    · simp only [At] at ha
      obtain ⟨t, rfl⟩ := ha
      rw [hashD, drawD] at h
      exact wpAny_pyHash_int h
    · simp only [At] at ha
      obtain ⟨t, rfl⟩ := ha
      rw [hashD, drawD] at h
      exact wpAny_pyHash_str h
  | succ n ih =>
    intro d u A s Q hd ha hu h
    cases d with
    | int i =>
      simp only [At] at ha
      obtain ⟨t, rfl⟩ := ha
      rw [hashD, drawD] at h
      exact wpAny_pyHash_int h
    | sym i =>
      simp only [At] at ha
      obtain ⟨t, rfl⟩ := ha
      rw [hashD, drawD] at h
      exact wpAny_pyHash_str h
    | tup l =>
      obtain ⟨_, e1, hl⟩ := keyD_tup hd
      cases e1
      simp only [At] at ha
      obtain ⟨a, items, rfl, hT0, hi⟩ := ha
      have hT : s.TypeIs (.ref a) "tuple" := by
        obtain ⟨o, o1, o2, _⟩ := hT0
        exact ⟨o, o1, o2⟩
      obtain ⟨o, ho, _, nn, hD⟩ := hT0
      unfold pyHash
      unfold pyHashByItsType
      refine wpAny_bind (wpAny_cRoomFor_or (.inr (by omega)) ?_)
      refine wpAny_bind (wpAny_specialOf hT F.slot_tuple_hash.lookup ?_)
      show wpAny _ _ (if (some (Value.builtin "tuple.__hash__") == some Value.none) = true then _ else _) Q E s
      rw [if_neg (by rw [beq_builtin_none]; exact Bool.false_ne_true)]
      refine wpAny_bind (wpAny_specialOf hT F.slot_tuple_hash.lookup ?_)
      show wpAny _ _ (callSpecialIfBoundUnlessNone? (.ref a) "__hash__" _ >>= _) Q E s
      refine wpAny_bind (wpAny_callSpecialIfBoundUnlessNone?_slot hT F.slot_tuple_hash (wpAny_call_entry F.slot_tuple_hash hT F.entry_tuple_hash ?_ (F.args_tuple_hash_1 _)))
      show wpAny _ _ (Builtin.Tuple.tupleItemsOf (.ref a) >>= _) _ _ s
      refine wpAny_bind (wpAny_tupleItemsOf ho hD ?_)
      refine wpAny_bind ?_
      rw [← Array.forIn_toList]
      refine wpAny_forIn_list _
        (fun rest (b : Array Int) s' => ∃ done left, l = done ++ left ∧ AtL s.heap left rest ∧ (∀ x ∈ left, keyD n x = true) ∧ b.toList = hashL w done ∧ s' = { s with toks := s.toks + drawL done })
        _ ?_ ?_ _ _ ⟨[], l, rfl, hi, hl, rfl, rfl⟩
      · rintro x rest b s' ⟨done, left, rfl, hr, hk, hb, rfl⟩
        cases left with
        | nil =>
          simp only [AtL] at hr
          cases hr
        | cons k ks =>
          simp only [AtL] at hr
          obtain ⟨_, _, e, h1, h2⟩ := hr
          cases e
          have app : ∀ (d : D) (l : List D), hashL w (l ++ [d]) = hashL w l ++ [hashD w d] ∧ drawL (l ++ [d]) = drawL l + drawD d := by
            intro d l
            induction l with
            | nil => simp [hashL, drawL]
            | cons y l il =>
              obtain ⟨i1, i2⟩ := il
              rw [List.cons_append, hashL, drawL, i1, i2, hashL, drawL]
              exact ⟨rfl, by omega⟩
          refine wpAny_bind (ih k x A.in1 { s with toks := s.toks + drawL done } _ (hk k List.mem_cons_self) h1 (by rw [in1_units]; omega) ?_)
          have fin : ∃ done' left', done ++ k :: ks = done' ++ left' ∧ AtL s.heap left' rest ∧ (∀ x ∈ left', keyD n x = true) ∧ (b.push (hashD w k)).toList = hashL w done' ∧
              ({ s with toks := s.toks + drawL done + drawD k } : Shared) = { s with toks := s.toks + drawL done' } :=
            ⟨done ++ [k], ks, by simp, h2, fun x hx => hk x (List.mem_cons_of_mem _ hx), by rw [(app k done).1, Array.toList_push, hb], by rw [(app k done).2, Nat.add_assoc]⟩
          first
            | exact wpAny_pure fin
            | exact wpAny_bind (wpAny_pure (wpAny_pure fin))
      · rintro b s' ⟨done, left, rfl, hr, hk, hb, rfl⟩
        cases left with
        | cons k ks =>
          simp only [AtL] at hr
          obtain ⟨_, _, e, _⟩ := hr
          cases e
        | nil =>
          rw [List.append_nil] at h
          show wpAny _ _ (retInt (Builtin.Tuple.tupleHashOf b.toList)) _ _ _
          rw [hb]
          refine wpAny_ret_mkInt ?_
          show wpAny _ _ (if (decide (-(2 : Int) ^ 63 ≤ Builtin.Tuple.tupleHashOf (hashL w done)) && decide (Builtin.Tuple.tupleHashOf (hashL w done) < 2 ^ 63)) = true then _ else _) Q E _
          rw [hashD, drawD] at h
          unfold reduceHash at h
          by_cases hr' : (decide (-(2 : Int) ^ 63 ≤ Builtin.Tuple.tupleHashOf (hashL w done)) && decide (Builtin.Tuple.tupleHashOf (hashL w done) < 2 ^ 63)) = true
          · rw [if_pos hr']
            rw [if_pos hr'] at h
            exact wpAny_pure (by simpa [Nat.add_assoc] using h)
          · rw [if_neg hr']
            rw [if_neg hr'] at h
            exact wpAny_bind (wpAny_rule (wpAny_pure (by simpa [Nat.add_assoc] using h)))
    | _ => simp [keyD] at hd

/-- a question asked down a tree's tuples that every leaf answers with yes -/
theorem quiet_tree : ∀ (n m : Nat) (d : D) (u : Value) (s : Shared) (Q : Bool → Shared → Prop), n ≤ m → keyD n d = true → At s.heap d u → Q true s → wpAny (model prog w) A (eqIsQuiet m u) Q E s := by
  intro n
  induction n with
  | zero =>
    intro m d u s Q hm hd ha h
    have e : carriedByValue u = true := by
      cases d <;> first | (simp [keyD] at hd; done) | skip
      all_goals
        simp only [At] at ha
        obtain ⟨t, rfl⟩ := ha
        rfl
    rw [eqIsQuiet_byValue m e]
    exact wpAny_pure h
  | succ n ih =>
    intro m d u s Q hm hd ha h
    cases d with
    | int i =>
      simp only [At] at ha
      obtain ⟨t, rfl⟩ := ha
      rw [eqIsQuiet_byValue m rfl]
      exact wpAny_pure h
    | sym i =>
      simp only [At] at ha
      obtain ⟨t, rfl⟩ := ha
      rw [eqIsQuiet_byValue m rfl]
      exact wpAny_pure h
    | tup l =>
      obtain ⟨_, e1, hl⟩ := keyD_tup hd
      cases e1
      obtain ⟨m, rfl⟩ : ∃ m', m = m' + 1 := ⟨m - 1, by omega⟩
      simp only [At] at ha
      obtain ⟨a, items, rfl, hT0, hi⟩ := ha
      have hT : s.TypeIs (.ref a) "tuple" := by
        obtain ⟨o, o1, o2, _⟩ := hT0
        exact ⟨o, o1, o2⟩
      obtain ⟨o, ho, _, nn, hD⟩ := hT0
      unfold eqIsQuiet
      refine wpAny_bind (wpAny_specialOf hT F.slot_tuple_eq.lookup ?_)
      show wpAny _ _ (isInstance (.ref a) (.type "tuple") >>= _) _ _ s
      refine wpAny_bind (wpAny_isInstance hT isSubtype_tuple_tuple ?_)
      simp only [Bool.not_true, Bool.false_eq_true, if_false]
      refine wpAny_bind (wpAny_seqItems ho hD ?_)
      refine wpAny_bind ?_
      show wpAny _ _ (forIn items _ _) _ _ s
      rw [← Array.forIn_toList]
      refine wpAny_forIn_list _ (fun rest r s' => r.1 = none ∧ s' = s ∧ ∀ v ∈ rest, ∃ d, keyD n d = true ∧ At s.heap d v) _ ?_ ?_ _ _ ⟨rfl, rfl, hi.all hl⟩
      · rintro v rest r s' ⟨hr, rfl, hall⟩
        obtain ⟨d, k1, k2⟩ := hall v List.mem_cons_self
        refine wpAny_bind (ih m d v s' _ (by omega) k1 k2 ?_)
        simp only [Bool.not_true, Bool.false_eq_true, if_false]
        exact wpAny_pure ⟨rfl, rfl, fun u hu' => hall u (List.mem_cons_of_mem _ hu')⟩
      · rintro ⟨r1, r2⟩ s' ⟨hr, rfl, _⟩
        simp only at hr
        subst hr
        exact wpAny_pure h
    | _ => simp [keyD] at hd
end
mutual
theorem At.keep' {h h' : Heap} (k : ∀ a o q n, h.get? a = some o → o.data = .seq q n → h'.get? a = some o) : ∀ (d : D) {u : Value}, At h d u → At h' d u
  | .non, _, x => by simpa only [At] using x
  | .bl _, _, x => by simpa only [At] using x
  | .int _, _, x => by simpa only [At] using x
  | .sym _, _, x => by simpa only [At] using x
  | .tup l, _, x => by
    simp only [At] at x ⊢
    obtain ⟨a, items, e, ⟨o, o1, o2, n, o3⟩, r⟩ := x
    exact ⟨a, items, e, ⟨o, k a o _ _ o1 o3, o2, n, o3⟩, AtL.keep' k l r⟩
  | .fn _, _, _ => by simp only [At]
  | .lst _, _, _ => by simp only [At]
  | .dct _ _, _, _ => by simp only [At]
  | .ins _, _, _ => by simp only [At]
theorem AtL.keep' {h h' : Heap} (k : ∀ a o q n, h.get? a = some o → o.data = .seq q n → h'.get? a = some o) : ∀ (l : List D) {us : List Value}, AtL h l us → AtL h' l us
  | [], _, x => by simpa only [AtL] using x
  | d :: l, _, x => by
    simp only [AtL] at x ⊢
    obtain ⟨u, r, e, x1, x2⟩ := x
    exact ⟨u, r, e, At.keep' k d x1, AtL.keep' k l x2⟩
end
theorem At.same {h h' : Heap} {p : Addr} {o : Obj} {es ep} {d : D} {u : Value} (x : At h d u) (ho : h.get? p = some o) (hd : o.data = .dict es ep) (hs : Heap.SameBut p h h') : At h' d u := by
  refine At.keep' ?_ d x
  intro a o' q n e z
  have hne : a ≠ p := by
    rintro rfl
    rw [ho] at e
    cases e
    rw [hd] at z
    cases z
  exact (hs.2 a hne).trans e
theorem eqBool_tree {prog : Program} {w : World} {A : Around} {E : Value → Shared → Prop} {s : Shared} {n : Nat} {x y : D} {u v : Value} {r : Bool} {Q : Bool → Shared → Prop} (h : eqD n x y = some r) (hx : At s.heap x u) (hy : At s.heap y v) (hu : A.units + n < cLine) (q : Q r s) :
    wpAny (model prog w) A (eqBool u v) Q E s := eqAt_tree n x y u v r A s h hx hy hu prog w _ _ q
noncomputable instance decD : DecidableEq D := fun a b => Classical.propDecidable (a = b)
noncomputable def treeK (prog : Program) (w : World) : HeapKind prog w D where
  is := fun h d a => keyD 7 d = true ∧ isTup d = true ∧ At h d (.ref a)
  hash := hashD w
  draws := drawD
  room := fun A => A.units + 10 < cLine
  inj := fun hx hy => key_inj hx.1 hy.1 hx.2.2 hy.2.2
  keeps := fun x ho hd hs => ⟨x.1, x.2.1, x.2.2.same ho hd hs⟩
  pyHash := fun hu hk h => hash_tree 7 _ _ _ _ _ hk.1 hk.2.2 (by omega) h
  eqBool := fun {A E s x y a b Q} hu hx hy h => by
    obtain ⟨r, e1, e2⟩ := key_eqv 7 x y hx.1 hy.1
    have e3 : decide (x = y) = r := by
      cases r with
      | true => simpa using e2.mp rfl
      | false =>
        refine decide_eq_false fun z => ?_
        have := e2.mpr z
        cases this
    rw [e3] at h
    exact eqBool_tree e1 hx.2.2 hy.2.2 (by omega) h
  quiet := fun hk h => quiet_tree 7 8 _ _ _ _ (by omega) hk.1 hk.2.2 h
end Tee
set_option maxRecDepth 100000
set_option maxHeartbeats 4000000
/-! Trees that stand in the heap; dicts of them. -/
namespace Tee
open PySem PySem.Spec PyProof.Rows L2
/-- the frame stands in the def's context -/
structure Okb (b : Bd) (X : Cx) : Prop where
  K : b.K = X.K
  w : b.w = X.w
  un : X.A.units + 64 < cLine
  calm : X.calm = true
theorem sqT_up {K : PySem.W.Frag} {F H : Hp} {a : Addr} {vs : List V} (s : Same F H) (h : SqT K F a vs) : SqT K H a vs := sqT_mono s h
section
variable {X : Cx} {b : Bd} {pins : List (Addr × Obj)} {σ : Sg} {F H : Hp} {s : Shared}
mutual
theorem rep_at (ok : Okb b X) (I : Inv X pins σ H s) (sm : Same F H) : ∀ (d : D) {v : V} {u : Value}, Rep b F d v → RelV v u → At s.heap d u
  | .non, _, _, h, r => by
    rw [Rep] at h
    subst h
    simp only [At]
    exact r
  | .bl _, _, _, h, r => by
    rw [Rep] at h
    subst h
    simp only [At]
    exact r
  | .int _, _, _, h, r => by
    rw [Rep] at h
    subst h
    simp only [At]
    exact r
  | .sym _, _, _, h, r => by
    rw [Rep] at h
    subst h
    simp only [At]
    exact r
  | .tup l, _, _, h, r => by
    rw [Rep] at h
    obtain ⟨a, vs, rfl, q, rl⟩ := h
    obtain ⟨its, rv, tp, _⟩ := I.tuple (sqT_up sm (ok.K ▸ q))
    simp only [At]
    exact ⟨a, its.toArray, r, tp, repL_at ok I sm l rl rv⟩
  | .fn _, _, _, _, _ => by simp only [At]
  | .lst _, _, _, _, _ => by simp only [At]
  | .dct _ _, _, _, _, _ => by simp only [At]
  | .ins _, _, _, _, _ => by simp only [At]
theorem repL_at (ok : Okb b X) (I : Inv X pins σ H s) (sm : Same F H) : ∀ (l : List D) {vs : List V} {us : List Value}, RepL b F l vs → Vals vs us → AtL s.heap l us
  | [], _, _, h, r => by
    rw [RepL] at h
    subst h
    cases r
    simp only [AtL]
  | d :: l, _, _, h, r => by
    rw [RepL] at h
    obtain ⟨v, t, rfl, h1, h2⟩ := h
    cases r with
    | cons r1 r2 =>
      simp only [AtL]
      exact ⟨_, _, rfl, rep_at ok I sm d h1 r1, repL_at ok I sm l h2 r2⟩
end

/-! ### rows of a dict -/
def rowsD : List D → List Rw3 → List Value → List (D × Addr × Value)
  | k :: ks, e :: es, u :: us => (k, e.2.1, u) :: rowsD ks es us
  | _, _, _ => []
theorem rowsD_keys : ∀ {ks : List D} {es : List Rw3} {us : List Value}, ks.length = es.length → es.length = us.length → (rowsD ks es us).map (·.1) = ks
  | [], [], _, _, _ => rfl
  | [], _ :: _, _, h, _ => by cases h
  | _ :: _, [], _, h, _ => by cases h
  | _ :: _, _ :: _, [], _, h => by cases h
  | k :: ks, e :: es, u :: us, h, h2 => by
    rw [rowsD, List.map_cons, rowsD_keys (by simpa using h) (by simpa using h2)]
theorem rowsD_len : ∀ {ks : List D} {es : List Rw3} {us : List Value}, ks.length = es.length → es.length = us.length → (rowsD ks es us).length = ks.length := fun h h2 => by
  have := congrArg List.length (rowsD_keys h h2)
  rwa [List.length_map] at this
theorem rowsD_raw {P : Program} {w : World} : ∀ {ks : List D} {es : List Rw3} {us : List Value}, es.map (·.1) = hashL w ks → es.length = us.length → List.zipWith rawEntry es us = (rowsD ks es us).map (entryOfKey (treeK P w))
  | [], [], _, _, _ => rfl
  | [], _ :: _, _, h, _ => by
    rw [hashL] at h
    cases h
  | _ :: _, [], _, h, _ => by
    rw [hashL] at h
    cases h
  | _ :: _, _ :: _, [], _, h => by cases h
  | k :: ks, e :: es, u :: us, h, h2 => by
    rw [hashL, List.map_cons] at h
    injection h with q1 q2
    rw [rowsD, List.zipWith_cons_cons, List.map_cons, rowsD_raw (P := P) q2 (by simpa using h2)]
    unfold rawEntry entryOfKey
    rw [q1]
    rfl
theorem hashL_len {w : World} : ∀ {l : List D}, (hashL w l).length = l.length
  | [] => rfl
  | _ :: l => by rw [hashL, List.length_cons, hashL_len, List.length_cons]
theorem KeyR.len {ks : List D} {es : List Rw3} (k : KeyR b F ks es) : ks.length = es.length := by
  have := congrArg List.length k.2.1
  rw [List.length_map, hashL_len] at this
  exact this.symm
theorem keyD_ref {n : Nat} {k : D} {a : Addr} (h : keyD n k = true) (r : Rep b F k (.ref a)) : isTup k = true := by
  cases n <;> cases k <;> first | rfl | (simp [keyD] at h; done) | (rw [Rep] at r; cases r; done)
theorem rep_tup {k : D} {v : V} (h : isTup k = true) (r : Rep b F k v) : ∃ a, v = .ref a := by
  cases k <;> first | (cases h; done) | skip
  rw [Rep] at r
  obtain ⟨a, _, e, _⟩ := r
  exact ⟨a, e⟩
/-- a dict of trees is the library's -/
theorem rows_of (ok : Okb b X) (I : Inv X pins σ H s) (sm : Same F H) {a : Addr} {ks : List D} {es : List Rw3} (h : Rd H a (dicO a es)) (k : KeyR b F ks es) :
    (a == sysModules) = false ∧ es.length ≤ sizeLine ∧ ∃ us : List Value, Vals (es.map (·.2.2)) us ∧ ks.length = es.length ∧ es.length = us.length ∧ s.heap.DictOfH (treeK X.prog X.w) a (rowsD ks es us) := by
  have q : DicAt a es s.heap := (h.ok I.hok).1
  obtain ⟨p1, p2, us, rv, o, ds, ep, p3, p4, p5, p6⟩ := q
  have l1 := k.len
  have l2 : es.length = us.length := by
    have := rv.length
    rwa [List.length_map] at this
  refine ⟨p1, p2, us, rv, l1, l2, o, ds, ep, p3, p4, p5, ?_, ?_, ?_⟩
  · rw [p6]
    exact rowsD_raw (by rw [k.2.1, ok.w]) l2
  · obtain ⟨r1, _, r3, _⟩ := k
    have go : ∀ (ks : List D) (es : List Rw3) (us : List Value), RepL b F ks (es.map fun e => V.ref e.2.1) → ks.all (keyD 7) = true → ∀ x ∈ rowsD ks es us, (treeK X.prog X.w).is s.heap x.1 x.2.1 := by
      intro ks
      induction ks with
      | nil => intro es us _ _ x hx; simp [rowsD] at hx
      | cons k ks ih =>
        intro es us r1 r3 x hx
        cases es with
        | nil => simp [rowsD] at hx
        | cons e es =>
          cases us with
          | nil => simp [rowsD] at hx
          | cons u us =>
            obtain ⟨v, t, e1, q1, q2⟩ := r1.uncons
            rw [List.map_cons] at e1
            injection e1 with e1 e2
            subst e1 e2
            rw [List.all_cons, Bool.and_eq_true] at r3
            rw [rowsD] at hx
            rcases List.mem_cons.mp hx with rfl | hx
            · exact ⟨r3.1, keyD_ref r3.1 q1, rep_at ok I sm k q1 rfl⟩
            · exact ih es us q2 r3.2 x hx
    exact go ks es us r1 r3
  · rw [rowsD_keys l1 l2]
    exact k.2.2.2

/-! ### looking up, putting in -/
theorem eqv_key {x y : D} (hx : keyD 7 x = true) (hy : keyD 7 y = true) : ∃ r, eqv x y = some r ∧ (r = true ↔ x = y) := key_eqv 7 x y hx hy
theorem look_rows {k : D} (hk : keyD 7 k = true) : ∀ {ks vs : List D} {es : List Rw3} {us : List Value} {r : Option D}, dGet k ks vs = some r → ks.all (keyD 7) = true → RepL b F vs (es.map (·.2.2)) → Vals (es.map (·.2.2)) us → ks.length = es.length →
    match r with
    | none => atKey (rowsD ks es us) k = none
    | some v => ∃ p w, atKey (rowsD ks es us) k = some p ∧ RelV w p.2 ∧ Rep b F v w
  | [], [], _, _, r, h, _, _, _, _ => by
    rw [dGet] at h
    cases h
    rfl
  | [], _ :: _, _, _, _, h, _, _, _, _ => by cases h
  | _ :: _, [], _, _, _, h, _, _, _, _ => by cases h
  | a :: ks, v :: vs, [], _, _, _, _, _, _, hl => by cases hl
  | a :: ks, v :: vs, e :: es, us, r, h, hks, rl, rv, hl => by
    rw [List.all_cons, Bool.and_eq_true] at hks
    obtain ⟨w, t, e1, q1, q2⟩ := rl.uncons
    rw [List.map_cons] at e1
    injection e1 with e1 e2
    subst e1 e2
    rw [List.map_cons] at rv
    cases rv with
    | cons rv1 rv2 =>
      rename_i u us
      obtain ⟨c, c1, c2⟩ := eqv_key hks.1 hk
      rw [dGet, c1] at h
      cases c with
      | true =>
        have ek : a = k := c2.mp rfl
        cases h
        refine ⟨(e.2.1, u), _, ?_, rv1, q1⟩
        rw [rowsD]
        unfold atKey
        rw [List.find?_cons_of_pos (by simpa using ek)]
        rfl
      | false =>
        have ne : ¬ a = k := fun z => by
          have := c2.mpr z
          cases this
        have ih := look_rows hk (r := r) h hks.2 q2 rv2 (by simpa using hl)
        rw [rowsD]
        have e3 : atKey ((a, e.2.1, u) :: rowsD ks es us) k = atKey (rowsD ks es us) k := by
          unfold atKey
          rw [List.find?_cons_of_neg (by simpa using ne)]
        cases r with
        | none => exact e3.trans ih
        | some v =>
          obtain ⟨p, w, i1, i2⟩ := ih
          exact ⟨p, w, e3.trans i1, i2⟩
noncomputable def putX (k : D) (c : Addr) (r : Value) : List (D × Addr × Value) → List (D × Addr × Value)
  | [] => [(k, c, r)]
  | x :: xs => if x.1 = k then (x.1, x.2.1, r) :: xs else x :: putX k c r xs
theorem storedX {k : D} {c : Addr} {r : Value} : ∀ {xs : List (D × Addr × Value)}, (xs.map (·.1)).Nodup → storedH xs k c r = putX k c r xs
  | [], _ => rfl
  | x :: xs, h => by
    rw [List.map_cons, List.nodup_cons] at h
    have ih := storedX (k := k) (c := c) (r := r) h.2
    rw [putX]
    by_cases e : x.1 = k
    · have hs : atKey (x :: xs) k = some x.2 := by
        unfold atKey
        rw [List.find?_cons_of_pos (by simpa using e)]
        rfl
      rw [storedH_old hs, if_pos e, List.map_cons, map_putAt_of_not_mem xs k r (by rw [← e]; exact h.1), putAt, if_pos e]
    · have e3 : atKey (x :: xs) k = atKey xs k := by
        unfold atKey
        rw [List.find?_cons_of_neg (by simpa using e)]
      rw [if_neg e, ← ih]
      unfold storedH
      rw [e3]
      split
      · rw [List.map_cons, putAt, if_neg e]
      · rfl
theorem put_rows {k v : D} {c : Addr} {w : V} {r : Value} (hk : keyD 7 k = true) (rk : Rep b F k (.ref c)) (rw' : RelV w r) (rp : Rep b F v w) : ∀ {ks vs ks' vs' : List D} {es : List Rw3} {us : List Value}, dPut k v ks vs = some (ks', vs') →
    KeyR b F ks es → RepL b F vs (es.map (·.2.2)) → Vals (es.map (·.2.2)) us → ∃ es' us', putX k c r (rowsD ks es us) = rowsD ks' es' us' ∧ KeyR b F ks' es' ∧ RepL b F vs' (es'.map (·.2.2)) ∧ Vals (es'.map (·.2.2)) us' ∧ es'.length ≤ es.length + 1 ∧ (∀ x ∈ ks', x = k ∨ x ∈ ks)
  | [], [], ks', vs', es, us, h, kr, rl, rv => by
    rw [dPut] at h
    cases h
    have l1 := kr.len
    cases es with
    | cons e es => cases l1
    | nil =>
      cases rv
      refine ⟨[(hashD b.w k, c, w)], [r], rfl, ⟨RepL.cons' rk RepL.nil', ?_, ?_, ?_⟩, RepL.cons' rp RepL.nil', .cons rw' .nil, by simp, fun x hx => .inl (by simpa using hx)⟩
      · simp [hashL]
      · simp [hk]
      · simp
  | [], _ :: _, _, _, _, _, h, _, _, _ => by cases h
  | _ :: _, [], _, _, _, _, h, _, _, _ => by cases h
  | a :: ks, v0 :: vs, ks', vs', es, us, h, kr, rl, rv => by
    have l1 := kr.len
    cases es with
    | nil => cases l1
    | cons e es =>
      obtain ⟨kr1, kr2, kr3, kr4⟩ := kr
      rw [List.all_cons, Bool.and_eq_true] at kr3
      obtain ⟨x, t, e1, p1, p2⟩ := kr1.uncons
      rw [List.map_cons] at e1
      injection e1 with e1 e2
      subst e1 e2
      obtain ⟨y, t, e1, q1, q2⟩ := rl.uncons
      rw [List.map_cons] at e1
      injection e1 with e1 e2
      subst e1 e2
      rw [hashL, List.map_cons] at kr2
      injection kr2 with h1 h2
      rw [List.nodup_cons] at kr4
      rw [List.map_cons] at rv
      cases rv with
      | cons rv1 rv2 =>
        rename_i u us
        obtain ⟨z, c1, c2⟩ := eqv_key kr3.1 hk
        rw [dPut, c1] at h
        rw [rowsD, putX]
        cases z with
        | true =>
          have e3 : a = k := c2.mp rfl
          cases h
          refine ⟨(e.1, e.2.1, w) :: es, r :: us, ?_, ⟨RepL.cons' p1 p2, ?_, ?_, ?_⟩, RepL.cons' rp q2, .cons rw' rv2, by simp, fun x hx => .inr hx⟩
          · rw [if_pos e3, rowsD]
          · rw [hashL, List.map_cons, h1, h2]
          · rw [List.all_cons, kr3.1, kr3.2]
            rfl
          · exact List.nodup_cons.mpr kr4
        | false =>
          have ne : ¬ a = k := fun z => by
            have := c2.mpr z
            cases this
          cases hd : dPut k v ks vs with
          | none =>
            rw [hd] at h
            cases h
          | some pr =>
            obtain ⟨ks2, vs2⟩ := pr
            rw [hd] at h
            cases h
            obtain ⟨es', us', i1, i2, i3, i4, i5, i6⟩ := put_rows hk rk rw' rp hd ⟨p2, h2, kr3.2, kr4.2⟩ q2 rv2
            refine ⟨e :: es', u :: us', ?_, ⟨RepL.cons' p1 i2.1, ?_, ?_, ?_⟩, RepL.cons' q1 i3, .cons rv1 i4, by simpa using i5, fun x hx => ?_⟩
            · rw [if_neg ne, i1, rowsD]
            · rw [hashL, List.map_cons, h1, i2.2.1]
            · rw [List.all_cons, kr3.1, i2.2.2.1]
              rfl
            · refine List.nodup_cons.mpr ⟨fun hm => ?_, i2.2.2.2⟩
              rcases i6 a hm with z | z
              · exact ne z
              · exact kr4.1 z
            · rcases List.mem_cons.mp hx with rfl | hx
              · exact .inr List.mem_cons_self
              · rcases i6 x hx with z | z
                · exact .inl z
                · exact .inr (List.mem_cons_of_mem _ z)
end
end Tee
set_option maxRecDepth 100000
set_option maxHeartbeats 4000000
/-! Expressions: rules over the readings of trees. -/
namespace Tee
open PySem PySem.Spec PyProof.Rows L2
/-- a wish that a value of the tree d meets, from here -/
def Got (b : Bd) (F : Hp) (G : Gh) (S : Ss) (σ : Sg) (d : D) (Q : VK) : Prop := ∀ F' v H', Same F F' → Rel b F' G S σ H' → Rep b F' d v → Q v H'
section
variable {X : Cx} {b : Bd} {σ : Sg} {F H : Hp} {G : Gh} {S S' : Ss} {Q : VK}
theorem Got.now {d : D} {v : V} (g : Got b F G S σ d Q) (r : Rel b F G S σ H) (h : Rep b F d v) : Q v H := g F v H (Same.refl F) r h
theorem Got.up {d : D} {F1 : Hp} (g : Got b F G S σ d Q) (s : Same F F1) : Got b F1 G S σ d Q := fun F' v H' s' r h => g F' v H' (s.trans s') r h
/-- a new frozen object is the answer -/
theorem Got.new {d : D} {p : Addr} {o : HO} (g : Got b F G S σ d Q) (r : Rel b F G S σ H) (hp : H p = none) (h : Rep b (upd F p o) d (.ref p)) : Q (.ref p) (upd H p o) :=
  g _ _ _ (same_alloc r hp) (r.alloc hp) h
/-- a new tuple, a new list -/
theorem rep_newT {l : List D} {vs : List V} {p : Addr} (hF : F p = none) (h : RepL b F l vs) : Rep b (upd F p (.tup vs)) (.tup l) (.ref p) := by
  rw [Rep]
  exact ⟨p, vs, rfl, .inl (.inl upd_same), RepL.mono (same_upd' hF) l h⟩
theorem rep_newL {l : List D} {vs : List V} {p : Addr} (hF : F p = none) (h : RepL b F l vs) : Rep b (upd F p (.lst vs)) (.lst l) (.ref p) := by
  rw [Rep]
  exact ⟨p, vs, rfl, upd_same, RepL.mono (same_upd' hF) l h⟩
theorem Got.tup {l : List D} {vs : List V} {p : Addr} (g : Got b F G S σ (.tup l) Q) (r : Rel b F G S σ H) (hp : H p = none) (h : RepL b F l vs) : Q (.ref p) (upd H p (.tup vs)) :=
  g.new r hp (rep_newT (sameNone r.base.sameF hp) h)
theorem Got.lst {l : List D} {vs : List V} {p : Addr} (g : Got b F G S σ (.lst l) Q) (r : Rel b F G S σ H) (hp : H p = none) (h : RepL b F l vs) : Q (.ref p) (upd H p (.lst vs)) :=
  g.new r hp (rep_newL (sameNone r.base.sameF hp) h)
/-- an atom -/
theorem Rep.int' {i : Int} : Rep b F (.int i) (.int i) := by rw [Rep]
theorem Rep.bl' {i : Bool} : Rep b F (.bl i) (.bl i) := by rw [Rep]
theorem Rep.non' : Rep b F .non .non := by rw [Rep]
theorem Rep.sym' {c : Sym} : Rep b F (.sym c) (.str c.str) := by rw [Rep]
theorem frN_eq {α : Type} (n : Nat) (k : Nat → α) : frN n k = k n := by cases n <;> rfl
theorem frI_eq {α : Type} (i : Int) (k : Int → α) : frI i k = k i := by
  cases i
  · exact frN_eq _ fun n => k (.ofNat n)
  · exact frN_eq _ fun n => k (.negSucc n)
theorem oint_eq (i : Int) : oint i = some (.int i) := by
  unfold oint
  rw [frI_eq]
theorem few_le {l : List D} (h : few l = true) : l.length ≤ 100000 := by
  unfold few at h
  exact Nat.le_of_ble_eq_true h
theorem ftup_of {l : List D} {d : D} (h : ftup l = some d) : d = .tup l ∧ l.length ≤ 100000 := by
  unfold ftup at h
  split at h
  · exact ⟨(Option.some.inj h).symm, few_le (by assumption)⟩
  · cases h
theorem flst_of {l : List D} {d : D} (h : flst l = some d) : d = .lst l ∧ l.length ≤ 100000 := by
  unfold flst at h
  split at h
  · exact ⟨(Option.some.inj h).symm, few_le (by assumption)⟩
  · cases h
theorem line_le {n : Nat} (h : n ≤ 100000) : n ≤ sizeLine := by
  rw [sizeLine_eq]
  omega
theorem line_lt {n : Nat} (h : n ≤ 100001) : n < sizeLine := by
  rw [sizeLine_eq]
  omega

/-! ### names, constants -/
theorem tE_const {d : D} {v : V} (h : ∀ F, Rep b F d v) : ∀ σ H Q, tE b (eC d) σ H Q → tC v σ H Q := fun σ H Q ⟨F, G, S, d', S', e, r, k⟩ => by
  cases e
  exact k F v H (Same.refl F) r (h F)
theorem r_const {e : Expr} {d : D} {v : V} (h : ∀ F, Rep b F d v) (p : PE X e (tC v)) : PE X e (tE b (eC d)) := p.weak (tE_const h)
theorem r_int {i j pos} : PE X (.Constant (.int i) j pos) (tE b (eC (.int i))) := r_const (fun _ => Rep.int') pe_int
theorem r_bl {i j pos} : PE X (.Constant (.bool i) j pos) (tE b (eC (.bl i))) := r_const (fun _ => Rep.bl') pe_bl
theorem r_non {j pos} : PE X (.Constant .none j pos) (tE b (eC .non)) := r_const (fun _ => Rep.non') pe_non
theorem r_sym {c : Sym} {x : PySem.Str} {j pos} (h : x = c.str) : PE X (.Constant (.str x) j pos) (tE b (eC (.sym c))) := by
  subst h
  exact r_const (fun _ => Rep.sym') pe_str
theorem not_own {H : Hp} {d a : Addr} {o : HO} (h : H d = some o) (n : ∀ x, o ≠ .own x) (q : H d = some (.own a)) : False := by
  rw [h] at q
  exact n a (Option.some.inj q)
/-- a slot that is read: what it holds is frozen -/
theorem r_var {i : Nat} {x : PySem.Str} {pos : Pos} (hN : X.N[i]? = some x) (hv : Vis X.env.scope x) (hd : (x == ("__debug__" : PySem.Str)) = false) (hcd : (x == ("__classdict__" : PySem.Str)) = false) : PE X (.Name x pos) (tE b (eV i)) := by
  refine ⟨fun pins s σ H Q I ⟨F, G, S, d, S', e, r, k⟩ => ?_⟩
  have q := r.slots i
  unfold eV at e
  cases hg : gets S i with
  | no =>
    rw [hg] at e
    cases e
  | val d' =>
    rw [hg] at e q
    cases e
    obtain ⟨v, h1, h2⟩ := q
    exact (pe_var hN hv hd hcd).run pins s σ H Q I ⟨v, h1, k F v H (Same.refl F) r h2⟩
  | lv l =>
    rw [hg] at e q
    cases e
    obtain ⟨a, vs, h1, h2, h3, h4, h5⟩ := q
    have own := r.own1 (i := i) (a := a) ⟨by rw [hg]; rfl, h1⟩
    have hF : Same F (upd F a (.lst vs)) := same_upd' h3
    refine (pe_var hN hv hd hcd).run pins s σ H Q I ⟨.ref a, h1, k _ _ _ hF ?_ (rep_newL h3 h5)⟩
    refine r.turn (F' := upd F a (.lst vs)) (H' := H) (fun c => c = a) (fun c z => by subst z; exact ⟨h4, own.1, own.2⟩) (fun d c z q => ?_) (fun c z => rfl) (fun c z => upd_ne z) (fun c z => by subst z; exact h3) (fun c z o e => ?_) (fun z => by cases z) ⟨.ref a, h1, rep_newL h3 h5⟩
    · subst z
      exact (not_own h2 (fun x z => by cases z) q).elim
    · subst z
      rw [upd_same] at e
      cases e
      exact h2
  | dv ks us =>
    rw [hg] at e q
    cases e
    obtain ⟨a, es, h1, h2, h3, h4, h5, h6⟩ := q
    have own := r.own1 (i := i) (a := a) ⟨by rw [hg]; rfl, h1⟩
    obtain ⟨od, I2⟩ := I.lock h2 True.intro
    have hF : Same F (upd F a (.frz od (dicO a es))) := same_upd' h3
    have rp : Rep b (upd F a (.frz od (dicO a es))) (.dct ks us) (.ref a) := by
      rw [Rep]
      exact ⟨a, od, es, rfl, upd_same, h5.mono hF, RepL.mono hF us h6⟩
    refine (pe_var hN hv hd hcd).run pins s σ (upd H a (.frz od (dicO a es))) Q I2 ⟨.ref a, h1, k _ _ _ hF ?_ rp⟩
    refine r.turn (F' := upd F a (.frz od (dicO a es))) (H' := upd H a (.frz od (dicO a es))) (fun c => c = a) (fun c z => by subst z; exact ⟨h4, own.1, own.2⟩) (fun d c z q => ?_) (fun c z => upd_ne z) (fun c z => upd_ne z) (fun c z => by subst z; exact h3) (fun c z o e => ?_) (fun z => by cases z) ⟨.ref a, h1, rp⟩
    · subst z
      exact (not_own h2 (fun x z => by cases z) q).elim
    · subst z
      rw [upd_same] at e ⊢
      exact e
  | iv l =>
    rw [hg] at e q
    cases e
    obtain ⟨a, dx, fs, h1, h2, h3, h4, h5, h6, h7, h8, h9⟩ := q
    have own := r.own1 (i := i) (a := a) ⟨by rw [hg]; rfl, h1⟩
    have nd : dx ≠ a := fun z => by
      rw [z] at h3
      rw [h2] at h3
      cases h3
    have hF1 : Same F (upd F dx (.own a)) := same_upd' h6
    have h4' : upd F dx (.own a) a = none := by
      rw [upd_ne (Ne.symm nd)]
      exact h4
    have hF : Same F (upd (upd F dx (.own a)) a (.ins b.CR dx fs)) := hF1.trans (same_upd' h4')
    have rp : Rep b (upd (upd F dx (.own a)) a (.ins b.CR dx fs)) (.ins l) (.ref a) := by
      rw [Rep]
      exact ⟨a, dx, fs, rfl, upd_same, by rw [upd_ne nd, upd_same], h8, RepL.mono hF l h9⟩
    refine (pe_var hN hv hd hcd).run pins s σ H Q I ⟨.ref a, h1, k _ _ _ hF ?_ rp⟩
    have dxn : ∀ j, j ≠ i → ¬ LiveAt S σ j dx := fun j n l => by
      obtain ⟨a', o, z1, z2, _⟩ := (r.slots j).live l.1
      have : dx = a' := by
        have := z1.symm.trans l.2
        cases this
        rfl
      subst this
      have q := r.slots j
      have lj := l.1
      cases hj : gets S j with
      | no => rw [hj] at lj; cases lj
      | val d => rw [hj] at lj; cases lj
      | lv l =>
        rw [hj] at q
        obtain ⟨c, _, z3, z4, _⟩ := q
        rw [z1] at z3
        cases z3
        rw [h3] at z4
        cases z4
      | dv k v =>
        rw [hj] at q
        obtain ⟨c, _, z3, z4, _⟩ := q
        rw [z1] at z3
        cases z3
        rw [h3] at z4
        cases z4
      | iv l =>
        rw [hj] at q
        obtain ⟨c, _, _, z3, z4, _⟩ := q
        rw [z1] at z3
        cases z3
        rw [h3] at z4
        cases z4
    have dxg : ∀ p ∈ G, p.1 ≠ dx := fun p hp z => by
      obtain ⟨g1, _, _, g4⟩ := r.base.gh p hp
      rw [z, h3] at g1
      exact g4 a (Option.some.inj g1).symm
    refine r.turn (F' := upd (upd F dx (.own a)) a (.ins b.CR dx fs)) (H' := H) (fun c => c = a ∨ c = dx) (fun c z => ?_) (fun d c z q => ?_) (fun c z => rfl) (fun c z => ?_) (fun c z => ?_) (fun c z o e => ?_) (fun z => by cases z) ⟨.ref a, h1, rp⟩
    · rcases z with rfl | rfl
      · exact ⟨h5, own.1, own.2⟩
      · exact ⟨h7, dxn, dxg⟩
    · rcases z with rfl | rfl
      · exact (not_own h2 (fun x z => by cases z) q).elim
      · rw [h3] at q
        cases q
        exact .inl rfl
    · rw [upd_ne (fun y => z (.inl y)), upd_ne (fun y => z (.inr y))]
    · rcases z with rfl | rfl
      · exact h4
      · exact h6
    · rcases z with rfl | rfl
      · rw [upd_same] at e
        cases e
        exact h2
      · rw [upd_ne nd, upd_same] at e
        cases e
        exact h3
end
end Tee
set_option maxRecDepth 100000
set_option maxHeartbeats 4000000
/-! Operators, displays, tests: rules over the readings of trees. -/
namespace Tee
open PySem PySem.Spec PyProof.Rows L2
/-- a value's rule serves the tree's -/
def Val1 (b : Bd) (f : D → Option D) (r : V → Hp → VK → Prop) : Prop := ∀ (F : Hp) (G : Gh) (S : Ss) (σ : Sg) (H : Hp) (d : D) (v : V) (z : D) (Q : VK), f d = some z → Rel b F G S σ H → Rep b F d v → Got b F G S σ z Q → r v H Q
def Val2 (b : Bd) (f : D → D → Option D) (r : R2) : Prop := ∀ (F : Hp) (G : Gh) (S : Ss) (σ : Sg) (H : Hp) (d e : D) (v u : V) (z : D) (Q : VK), f d e = some z → Rel b F G S σ H → Rep b F d v → Rep b F e u → Got b F G S σ z Q → r v u H Q
section
variable {X : Cx} {b : Bd} {σ : Sg} {H : Hp} {Q : VK} {f : D → Option D} {g : D → D → Option D} {m n : M}
theorem e1_w {r : V → Hp → VK → Prop} (hr : Val1 b f r) : tE b (e1 f m) σ H Q → tE b m σ H fun x H1 => r x H1 Q := fun ⟨F, G, S, d, S', e, rel, k⟩ => by
  unfold e1 at e
  cases hm : m S with
  | no =>
    rw [hm] at e
    cases e
  | go x S1 =>
    rw [hm] at e
    dsimp only at e
    cases hf : f x with
    | none =>
      rw [hf] at e
      cases e
    | some z =>
      rw [hf] at e
      cases e
      exact ⟨F, G, S, x, _, hm, rel, fun F' v H' s r' h => hr F' G _ σ H' x v _ Q hf r' h (Got.up k s)⟩
theorem e2_w {r : R2} (hr : Val2 b g r) : tE b (e2 g m n) σ H Q → tOp r (tE b m) (tE b n) σ H Q := fun ⟨F, G, S, d, S', e, rel, k⟩ => by
  unfold e2 at e
  cases hm : m S with
  | no =>
    rw [hm] at e
    cases e
  | go x S1 =>
    rw [hm] at e
    dsimp only at e
    cases hn : n S1 with
    | no =>
      rw [hn] at e
      cases e
    | go y S2 =>
      rw [hn] at e
      dsimp only at e
      cases hf : g x y with
      | none =>
        rw [hf] at e
        cases e
      | some z =>
        rw [hf] at e
        cases e
        refine ⟨F, G, S, x, S1, hm, rel, fun F1 v H1 s1 r1 h1 => ⟨F1, G, S1, y, _, hn, r1, fun F2 u H2 s2 r2 h2 => ?_⟩⟩
        exact hr F2 G _ σ H2 x y v u _ Q hf r2 (Rep.mono s2 x h1) h2 (Got.up k (s1.trans s2))
/-- a test is a value that is a bool -/
theorem tT_tE {Q : Bool → Hp → Prop} : tT b m σ H Q → tE b m σ H fun x H' => ∃ k, x = .bl k ∧ Q k H' := fun ⟨F, G, S, c, S', e, rel, k⟩ =>
  ⟨F, G, S, .bl c, S', e, rel, fun F' v H' s r h => by
    rw [Rep] at h
    exact ⟨c, h, k F' H' s r⟩⟩
end
section
variable {X : Cx} {b : Bd} {a e c : Expr} {ma mb mc : M} {pos : Pos}
theorem r_op {op : Operator} {r : R2} {g : D → D → Option D} (ho : OpR X (binaryOp op) r) (hr : Val2 b g r) (ha : PE X a (tE b ma)) (he : PE X e (tE b mb)) : PE X (.BinOp a op e pos) (tE b (e2 g ma mb)) := (pe_op ho ha he).weak fun _ _ _ q => e2_w hr q
theorem r_cmp {op : CmpOp} {r : R2} {g : D → D → Option D} (ho : OpR X (compareOp op) r) (hr : Val2 b g r) (ha : PE X a (tE b ma)) (he : PE X e (tE b mb)) (hm : behindInMarks op e = false) : PE X (.Compare a [op] [e] pos) (tE b (e2 g ma mb)) :=
  (pe_cmpR ho ha he hm).weak fun _ _ _ q => e2_w hr q
theorem r_cmpT {op : CmpOp} {r : R2} {g : D → D → Option D} (ho : OpR X (compareOp op) r) (hr : Val2 b g r) (ha : PE X a (tE b ma)) (he : PE X e (tE b mb)) (hm : behindInMarks op e = false) : PT X (.Compare a [op] [e] pos) (tT b (e2 g ma mb)) :=
  (pt_cmpR ho ha he hm).weak fun _ _ _ q => e2_w hr (tT_tE q)
theorem ch_w {σ : Sg} {H : Hp} {Q : VK} {g g' : D → D → Option D} {r r' : R2} (hr : Val2 b g r) (hr' : Val2 b g' r') : tE b (eCh g g' ma mb mc) σ H Q → tChain r r' (tE b ma) (tE b mb) (tE b mc) σ H Q := fun ⟨F, G, S, d, S', e, rel, k⟩ => by
  unfold eCh at e
  cases hm : ma S with
  | no =>
    rw [hm] at e
    cases e
  | go x S1 =>
    rw [hm] at e
    dsimp only at e
    cases hn : mb S1 with
    | no =>
      rw [hn] at e
      cases e
    | go y S2 =>
      rw [hn] at e
      dsimp only at e
      refine ⟨F, G, S, x, S1, hm, rel, fun F1 v H1 s1 r1 h1 => ⟨F1, G, S1, y, S2, hn, r1, fun F2 u H2 s2 r2 h2 => ?_⟩⟩
      cases hf : g x y with
      | none =>
        rw [hf] at e
        cases e
      | some z =>
        rw [hf] at e
        match z, e, hf with
        | .bl true, e, hf =>
          refine hr F2 G S2 σ H2 x y v u (.bl true) _ hf r2 (Rep.mono s2 x h1) h2 fun F3 z3 H3 s3 r3 h3 => ?_
          rw [Rep] at h3
          refine ⟨true, h3, ?_⟩
          refine iteT ?_
          dsimp only at e
          cases hc : mc S2 with
          | no =>
            rw [hc] at e
            cases e
          | go w S3 =>
            rw [hc] at e
            dsimp only at e
            cases hf2 : g' y w with
            | none =>
              rw [hf2] at e
              cases e
            | some z2 =>
              rw [hf2] at e
              cases e
              exact ⟨F3, G, S2, w, _, hc, r3, fun F4 t H4 s4 r4 h4 => hr' F4 G _ σ H4 y w u t _ Q hf2 r4 (Rep.mono (s3.trans s4) y h2) h4 (Got.up k (((s1.trans s2).trans s3).trans s4))⟩
        | .bl false, e, hf =>
          cases e
          refine hr F2 G _ σ H2 x y v u (.bl false) _ hf r2 (Rep.mono s2 x h1) h2 fun F3 z3 H3 s3 r3 h3 => ?_
          rw [Rep] at h3
          refine ⟨false, h3, ?_⟩
          refine iteF ?_
          exact k F3 _ H3 ((s1.trans s2).trans s3) r3 Rep.bl'
        | .non, e, hf => cases e
        | .int _, e, hf => cases e
        | .sym _, e, hf => cases e
        | .fn _, e, hf => cases e
        | .tup _, e, hf => cases e
        | .lst _, e, hf => cases e
        | .dct _ _, e, hf => cases e
        | .ins _, e, hf => cases e
theorem r_ch {op op' : CmpOp} {g g' : D → D → Option D} {r r' : R2} (ho : OpR X (compareOp op) r) (ho' : OpR X (compareOp op') r') (hr : Val2 b g r) (hr' : Val2 b g' r') (ha : PE X a (tE b ma)) (he : PE X e (tE b mb)) (hc : PE X c (tE b mc)) (hm : lastMarks [op, op'] [e, c] = false) :
    PE X (.Compare a [op, op'] [e, c] pos) (tE b (eCh g g' ma mb mc)) := (pe_chain ho ho' ha he hc hm).weak fun _ _ _ q => ch_w hr hr' q
theorem r_chT {op op' : CmpOp} {g g' : D → D → Option D} {r r' : R2} (ho : OpR X (compareOp op) r) (ho' : OpR X (compareOp op') r') (hr : Val2 b g r) (hr' : Val2 b g' r') (ha : PE X a (tE b ma)) (he : PE X e (tE b mb)) (hc : PE X c (tE b mc)) (hm : lastMarks [op, op'] [e, c] = false) :
    PT X (.Compare a [op, op'] [e, c] pos) (tT b (eCh g g' ma mb mc)) := (pt_chain ho ho' ha he hc hm).weak fun _ _ _ q => ch_w hr hr' (tT_tE q)

/-! ### and, or, not, if -/
variable {rest : List Expr}
theorem and_T {σ : Sg} {H : Hp} {Q : Bool → Hp → Prop} : tT b (eAnd ma mb) σ H Q → tAnd (tT b ma) (tT b mb) σ H Q := fun ⟨F, G, S, d, S', e, rel, k⟩ => by
  unfold eAnd at e
  split at e
  · rename_i S1 hm
    refine ⟨F, G, S, true, S1, hm, rel, fun F1 H1 s1 r1 => ?_⟩
    refine iteT ?_
    exact ⟨F1, G, S1, d, S', e, r1, fun F2 H2 s2 r2 => k F2 H2 (s1.trans s2) r2⟩
  · rename_i S1 hm
    cases e
    refine ⟨F, G, S, false, S', hm, rel, fun F1 H1 s1 r1 => ?_⟩
    refine iteF ?_
    exact k F1 H1 s1 r1
  · cases e
theorem or_T {σ : Sg} {H : Hp} {Q : Bool → Hp → Prop} : tT b (eOr ma mb) σ H Q → tOr (tT b ma) (tT b mb) σ H Q := fun ⟨F, G, S, d, S', e, rel, k⟩ => by
  unfold eOr at e
  split at e
  · rename_i S1 hm
    cases e
    refine ⟨F, G, S, true, S', hm, rel, fun F1 H1 s1 r1 => ?_⟩
    refine iteT ?_
    exact k F1 H1 s1 r1
  · rename_i S1 hm
    refine ⟨F, G, S, false, S1, hm, rel, fun F1 H1 s1 r1 => ?_⟩
    refine iteF ?_
    exact ⟨F1, G, S1, d, S', e, r1, fun F2 H2 s2 r2 => k F2 H2 (s1.trans s2) r2⟩
  · cases e
theorem w_and (ha : PT X a (tT b ma)) (hb : PW X (.BoolOp .And (e :: rest) pos) (tT b mb)) : PW X (.BoolOp .And (a :: e :: rest) pos) (tT b (eAnd ma mb)) := (pw_and ha hb).weak fun _ _ _ q => and_T q
theorem w_or (ha : PT X a (tT b ma)) (hb : PW X (.BoolOp .Or (e :: rest) pos) (tT b mb)) : PW X (.BoolOp .Or (a :: e :: rest) pos) (tT b (eOr ma mb)) := (pw_or ha hb).weak fun _ _ _ q => or_T q
theorem bl_of {F : Hp} {c : Bool} {v : V} (h : Rep b F (.bl c) v) : v = .bl c := by
  rw [Rep] at h
  exact h
theorem and_E {σ : Sg} {H : Hp} {Q : VK} : tE b (eAnd ma mb) σ H Q → tAndV (tE b ma) (tE b mb) σ H Q := fun ⟨F, G, S, d, S', e, rel, k⟩ => by
  unfold eAnd at e
  split at e
  · rename_i S1 hm
    refine ⟨F, G, S, _, S1, hm, rel, fun F1 v H1 s1 r1 h1 => ⟨true, bl_of h1, ?_⟩⟩
    refine iteT ?_
    exact ⟨F1, G, S1, d, S', e, r1, fun F2 u H2 s2 r2 => k F2 u H2 (s1.trans s2) r2⟩
  · rename_i S1 hm
    cases e
    refine ⟨F, G, S, _, S', hm, rel, fun F1 v H1 s1 r1 h1 => ⟨false, bl_of h1, ?_⟩⟩
    refine iteF ?_
    exact k F1 _ H1 s1 r1 Rep.bl'
  · cases e
theorem or_E {σ : Sg} {H : Hp} {Q : VK} : tE b (eOr ma mb) σ H Q → tOrV (tE b ma) (tE b mb) σ H Q := fun ⟨F, G, S, d, S', e, rel, k⟩ => by
  unfold eOr at e
  split at e
  · rename_i S1 hm
    cases e
    refine ⟨F, G, S, _, S', hm, rel, fun F1 v H1 s1 r1 h1 => ⟨true, bl_of h1, ?_⟩⟩
    refine iteT ?_
    exact k F1 _ H1 s1 r1 Rep.bl'
  · rename_i S1 hm
    refine ⟨F, G, S, _, S1, hm, rel, fun F1 v H1 s1 r1 h1 => ⟨false, bl_of h1, ?_⟩⟩
    refine iteF ?_
    exact ⟨F1, G, S1, d, S', e, r1, fun F2 u H2 s2 r2 => k F2 u H2 (s1.trans s2) r2⟩
  · cases e
theorem r_and (ha : PE X a (tE b ma)) (hb : PE X (.BoolOp .And (e :: rest) pos) (tE b mb)) : PE X (.BoolOp .And (a :: e :: rest) pos) (tE b (eAnd ma mb)) := (pe_and ha hb).weak fun _ _ _ q => and_E q
theorem r_or (ha : PE X a (tE b ma)) (hb : PE X (.BoolOp .Or (e :: rest) pos) (tE b mb)) : PE X (.BoolOp .Or (a :: e :: rest) pos) (tE b (eOr ma mb)) := (pe_or ha hb).weak fun _ _ _ q => or_E q
theorem not_S {S : Ss} {d : D} {S' : Ss} (e : eNot ma S = .go d S') : ∃ c, ma S = .go (.bl c) S' ∧ d = .bl (!c) := by
  unfold eNot at e
  split at e
  · rename_i c S1 hm
    cases e
    exact ⟨c, hm, rfl⟩
  · cases e
theorem t_not (ha : PT X a (tT b ma)) : PT X (.UnaryOp .Not a pos) (tT b (eNot ma)) := (pt_not ha).weak fun σ H Q ⟨F, G, S, d, S', e, rel, k⟩ => by
  obtain ⟨c, hm, z⟩ := not_S e
  cases z
  exact ⟨F, G, S, c, S', hm, rel, fun F1 H1 s1 r1 => k F1 H1 s1 r1⟩
theorem r_not (ha : PE X a (tE b ma)) : PE X (.UnaryOp .Not a pos) (tE b (eNot ma)) := (pe_not ha).weak fun σ H Q ⟨F, G, S, d, S', e, rel, k⟩ => by
  obtain ⟨c, hm, z⟩ := not_S e
  cases z
  exact ⟨F, G, S, _, S', hm, rel, fun F1 v H1 s1 r1 h1 => ⟨c, bl_of h1, k F1 _ H1 s1 r1 Rep.bl'⟩⟩
theorem r_if (hc : PT X c (tT b mc)) (ha : PE X a (tE b ma)) (he : PE X e (tE b mb)) : PE X (.IfExp c a e pos) (tE b (eIf mc ma mb)) := (pe_ifExp hc ha he).weak fun σ H Q ⟨F, G, S, d, S', e, rel, k⟩ => by
  unfold eIf at e
  split at e
  · rename_i S1 hm
    refine ⟨F, G, S, true, S1, hm, rel, fun F1 H1 s1 r1 => ?_⟩
    refine iteT ?_
    exact ⟨F1, G, S1, d, S', e, r1, fun F2 u H2 s2 r2 => k F2 u H2 (s1.trans s2) r2⟩
  · rename_i S1 hm
    refine ⟨F, G, S, false, S1, hm, rel, fun F1 H1 s1 r1 => ?_⟩
    refine iteF ?_
    exact ⟨F1, G, S1, d, S', e, r1, fun F2 u H2 s2 r2 => k F2 u H2 (s1.trans s2) r2⟩
  · cases e
/-- any other expression as a test -/
theorem r_test (ha : PE X a (tE b ma)) (he : ∀ whole, isTrue a X.env whole = (do let v ← whole; standAt a.pos; holding [v] (truthy v))) : PT X a (tT b ma) := (pt_val ha he).weak fun σ H Q q => tT_tE q

/-! ### arguments, displays -/
variable {es : List Expr} {l : L}
theorem a_nil : PA X [] (tA b aN) := pa_nil.weak fun σ H Q ⟨F, G, S, d, S', e, rel, k⟩ => by
  cases e
  exact k F [] H (Same.refl F) rel RepL.nil'
theorem a_cons (ha : PE X a (tE b ma)) (hr : PA X es (tA b l)) (hs : starEach (a :: es) X.env = (false, eval a X.env) :: starEach es X.env) : PA X (a :: es) (tA b (aC ma l)) := (pa_cons ha hr hs).weak fun σ H Q ⟨F, G, S, d, S', e, rel, k⟩ => by
  unfold aC at e
  cases hm : ma S with
  | no =>
    rw [hm] at e
    cases e
  | go x S1 =>
    rw [hm] at e
    dsimp only at e
    cases hn : l S1 with
    | no =>
      rw [hn] at e
      cases e
    | go y S2 =>
      rw [hn] at e
      cases e
      exact ⟨F, G, S, x, S1, hm, rel, fun F1 v H1 s1 r1 h1 => ⟨F1, G, S1, y, S', hn, r1, fun F2 vs H2 s2 r2 h2 => k F2 (v :: vs) H2 (s1.trans s2) r2 (RepL.cons' (Rep.mono s2 x h1) h2)⟩⟩
theorem a_star {p : Pos} (hK : b.K = X.K) (ha : PE X a (tE b ma)) (hr : PA X es (tA b l)) (hs : starEach (.Starred a p :: es) X.env = (true, eval a X.env) :: starEach es X.env) : PA X (.Starred a p :: es) (tA b (aS ma l)) := (StX.pa_star ha hr hs).weak fun σ H Q ⟨F, G, S, d, S', e, rel, k⟩ => by
  unfold aS at e
  split at e
  · rename_i x S1 hm
    cases hn : l S1 with
    | no =>
      rw [hn] at e
      cases e
    | go y S2 =>
      rw [hn] at e
      cases e
      refine ⟨F, G, S, _, S1, hm, rel, fun F1 v H1 s1 r1 h1 => ?_⟩
      rw [Rep] at h1
      obtain ⟨p, vs, e1, q1, q2⟩ := h1
      refine ⟨p, vs, e1, .inl (by rw [← hK]; exact sqT_up r1.base.sameF q1), ?_⟩
      exact ⟨F1, G, S1, y, S', hn, r1, fun F2 us H2 s2 r2 h2 => k F2 (vs ++ us) H2 (s1.trans s2) r2 ((RepL.mono s2 x q2).app h2)⟩
  · cases e
theorem r_tup {k : Nat} (h : PA X es (tA b l)) : PE X (.Tuple es k pos) (tE b (eTup l)) := (pe_tup h).weak fun σ H Q ⟨F, G, S, d, S', e, rel, k⟩ => by
  unfold eTup at e
  cases hm : l S with
  | no =>
    rw [hm] at e
    cases e
  | go x S1 =>
    rw [hm] at e
    dsimp only at e
    cases hf : ftup x with
    | none =>
      rw [hf] at e
      cases e
    | some z =>
      rw [hf] at e
      cases e
      obtain ⟨z1, z2⟩ := ftup_of hf
      subst z1
      refine ⟨F, G, S, x, S', hm, rel, fun F1 vs H1 s1 r1 h1 => ⟨by rw [← h1.len]; exact line_le z2, fun p hp => ?_⟩⟩
      exact Got.tup (Got.up k s1) r1 hp h1
theorem r_lst (h : PA X es (tA b l)) : PE X (.List es pos) (tE b (eLst l)) := (pe_lst h).weak fun σ H Q ⟨F, G, S, d, S', e, rel, k⟩ => by
  unfold eLst at e
  cases hm : l S with
  | no =>
    rw [hm] at e
    cases e
  | go x S1 =>
    rw [hm] at e
    dsimp only at e
    cases hf : flst x with
    | none =>
      rw [hf] at e
      cases e
    | some z =>
      rw [hf] at e
      cases e
      obtain ⟨z1, z2⟩ := flst_of hf
      subst z1
      refine ⟨F, G, S, x, S', hm, rel, fun F1 vs H1 s1 r1 h1 => ⟨by rw [← h1.len]; exact line_le z2, fun p hp => ?_⟩⟩
      exact Got.lst (Got.up k s1) r1 hp h1
/-- a list of one as arguments -/
theorem arg1 {σ : Sg} {H : Hp} {Q : List V → Hp → Prop} : tE b ma σ H (fun v H1 => Q [v] H1) → tCons (tE b ma) tNil σ H Q := fun h => h
theorem r_call1 {f : D → Option D} {r : List V → Hp → VK → Prop} {x : PySem.Str} {p : Pos} (hp : PE X (.Call (.Name x p) [a] [] pos) (tCB r (tCons (tE b ma) tNil))) (hr : Val1 b f fun v H Q => r [v] H Q) : PE X (.Call (.Name x p) [a] [] pos) (tE b (e1 f ma)) :=
  hp.weak fun σ H Q q => e1_w (Q := Q) hr q
theorem r_call2 {g : D → D → Option D} {r : List V → Hp → VK → Prop} {x : PySem.Str} {p : Pos} (hp : PE X (.Call (.Name x p) [a, e] [] pos) (tCB r (tCons (tE b ma) (tCons (tE b mb) tNil)))) (hr : Val2 b g fun v u H Q => r [v, u] H Q) :
    PE X (.Call (.Name x p) [a, e] [] pos) (tE b (e2 g ma mb)) := hp.weak fun σ H Q q => e2_w (Q := Q) hr q
end
end Tee
set_option maxRecDepth 100000
set_option maxHeartbeats 4000000
/-! Each operator's rule, for trees. -/
namespace Tee
open PySem PySem.Spec PyProof.Rows L2
section
variable {X : Cx} {b : Bd} {F : Hp}
theorem int_of {i : Int} {v : V} (h : Rep b F (.int i) v) : v = .int i := by
  rw [Rep] at h
  exact h
theorem tup_of {l : List D} {v : V} (h : Rep b F (.tup l) v) : ∃ a vs, v = .ref a ∧ SqT b.K F a vs ∧ RepL b F l vs := by
  rw [Rep] at h
  exact h
theorem lst_of {l : List D} {v : V} (h : Rep b F (.lst l) v) : ∃ a vs, v = .ref a ∧ F a = some (.lst vs) ∧ RepL b F l vs := by
  rw [Rep] at h
  exact h
theorem v_int1 {f : D → Option D} {g : Int → Int} (hf : ∀ d z, f d = some z → ∃ i, d = .int i ∧ z = .int (g i)) : Val1 b f (rU fun i => .int (g i)) := fun F G S σ H d v z Q h r hv k => by
  obtain ⟨i, rfl, rfl⟩ := hf d z h
  exact ⟨i, int_of hv, k.now r Rep.int'⟩
theorem v_neg : Val1 b oNeg (rU fun i => .int (-i)) := v_int1 fun d z h => by
  cases d <;> first | (cases h; done) | skip
  rename_i i
  have h' : oint (-i) = some z := h
  rw [oint_eq] at h'
  exact ⟨i, rfl, (Option.some.inj h').symm⟩
theorem nle_lt {i j : Int} : (!decide (i < j)) = decide (j ≤ i) := by
  by_cases h : i < j
  · rw [decide_eq_true h, decide_eq_false (by omega)]
    rfl
  · rw [decide_eq_false h, decide_eq_true (by omega)]
    rfl
/-- two ints in -/
theorem v_rI {g : D → D → Option D} {C : Int → Int → Prop} {w : Int → Int → Int} (hf : ∀ d e z, g d e = some z → ∃ i j, d = .int i ∧ e = .int j ∧ C i j ∧ z = .int (w i j)) : Val2 b g (rI C fun i j => .int (w i j)) := fun F G S σ H d e v u z Q h r hv hu k => by
  obtain ⟨i, j, rfl, rfl, hc, rfl⟩ := hf d e z h
  exact ⟨i, j, int_of hv, int_of hu, hc, k.now r Rep.int'⟩
theorem v_rI0 {g : D → D → Option D} {w : Int → Int → Int} (hf : ∀ d e z, g d e = some z → ∃ i j, d = .int i ∧ e = .int j ∧ z = .int (w i j)) : Val2 b g (rI0 fun i j => .int (w i j)) := fun F G S σ H d e v u z Q h r hv hu k => by
  obtain ⟨i, j, rfl, rfl, rfl⟩ := hf d e z h
  exact ⟨i, j, int_of hv, int_of hu, k.now r Rep.int'⟩
theorem v_rB0 {g : D → D → Option D} {w : Int → Int → Bool} (hf : ∀ d e z, g d e = some z → ∃ i j, d = .int i ∧ e = .int j ∧ z = .bl (w i j)) : Val2 b g (rI0 fun i j => .bl (w i j)) := fun F G S σ H d e v u z Q h r hv hu k => by
  obtain ⟨i, j, rfl, rfl, rfl⟩ := hf d e z h
  exact ⟨i, j, int_of hv, int_of hu, k.now r Rep.bl'⟩
theorem v_sub : Val2 b oSub (rI0 fun i j => .int (i - j)) := v_rI0 fun d e z h => by
  cases d <;> first | (cases h; done) | skip
  cases e <;> first | (cases h; done) | skip
  rename_i i j
  have h' : oint (i - j) = some z := h
  rw [oint_eq] at h'
  exact ⟨i, j, rfl, rfl, (Option.some.inj h').symm⟩
theorem v_mod : Val2 b oMod (rI (fun _ j => 0 < j) fun i j => .int (i % j)) := v_rI fun d e z h => by
  cases d <;> first | (cases h; done) | skip
  cases e <;> first | (cases h; done) | skip
  rename_i i j
  unfold oMod at h
  dsimp only at h
  split at h
  · rename_i hp
    rw [oint_eq] at h
    rw [ilt_iff] at hp
    exact ⟨i, j, rfl, rfl, of_decide_eq_true hp, (Option.some.inj h).symm⟩
  · cases h
theorem v_div : Val2 b oDiv (rI CDiv fun i j => .int (i / j)) := v_rI fun d e z h => by
  cases d <;> first | (cases h; done) | skip
  cases e <;> first | (cases h; done) | skip
  rename_i i j
  unfold oDiv at h
  dsimp only at h
  split at h
  · rename_i hp
    rw [oint_eq] at h
    rw [Bool.and_eq_true, ilt_iff, ilt_iff] at hp
    exact ⟨i, j, rfl, rfl, ⟨of_decide_eq_true hp.1, of_decide_eq_true hp.2⟩, (Option.some.inj h).symm⟩
  · cases h
theorem v_ltI : Val2 b oLtI (rI0 fun i j => .bl (decide (i < j))) := v_rB0 fun d e z h => by
  cases d <;> first | (cases h; done) | skip
  cases e <;> first | (cases h; done) | skip
  cases h
  exact ⟨_, _, rfl, rfl, by rw [ilt_iff]⟩
theorem v_leI : Val2 b oLeI (rI0 fun i j => .bl (decide (i ≤ j))) := v_rB0 fun d e z h => by
  cases d <;> first | (cases h; done) | skip
  cases e <;> first | (cases h; done) | skip
  cases h
  exact ⟨_, _, rfl, rfl, by rw [ilt_iff, nle_lt]⟩
theorem v_gtI : Val2 b oGtI (rI0 fun i j => .bl (decide (j < i))) := v_rB0 fun d e z h => by
  cases d <;> first | (cases h; done) | skip
  cases e <;> first | (cases h; done) | skip
  cases h
  exact ⟨_, _, rfl, rfl, by rw [ilt_iff]⟩
theorem v_geI : Val2 b oGeI (rI0 fun i j => .bl (decide (j ≤ i))) := v_rB0 fun d e z h => by
  cases d <;> first | (cases h; done) | skip
  cases e <;> first | (cases h; done) | skip
  cases h
  exact ⟨_, _, rfl, rfl, by rw [ilt_iff, nle_lt]⟩
/-! ### + -/
def rAddD (K : PySem.W.Frag) : R2 := fun x y H Q => (rI0 fun i j => .int (i + j)) x y H Q ∨ (rCatA K x y H Q ∨ rCat x y H Q)
theorem op_addD : OpR X (binaryOp .Add) (rAddD X.K) := op_add.or (op_catA.or op_cat)
theorem RepL.nil_iff {l : List D} {vs : List V} (h : RepL b F l vs) : vs = [] ↔ l = [] := by
  have := h.len
  constructor
  · intro e
    subst e
    exact List.eq_nil_of_length_eq_zero this
  · intro e
    subst e
    exact h.unnil
theorem v_add (ok : Okb b X) : Val2 b oAdd (rAddD X.K) := fun F G S σ H d e v u z Q h r hv hu k => by
  cases d <;> first | (cases h; done) | skip
  · cases e <;> first | (cases h; done) | skip
    rename_i i j
    have h' : oint (i + j) = some z := h
    rw [oint_eq] at h'
    obtain rfl := Option.some.inj h'
    exact .inl ⟨i, j, int_of hv, int_of hu, k.now r Rep.int'⟩
  · cases e <;> first | (cases h; done) | skip
    rename_i l m
    have h' : ftup (l ++ m) = some z := h
    obtain ⟨rfl, h2⟩ := ftup_of h'
    have hv0 := hv
    have hu0 := hu
    obtain ⟨p, xs, rfl, q1, q2⟩ := tup_of hv
    obtain ⟨p2, ys, rfl, q3, q4⟩ := tup_of hu
    rw [List.length_append, q2.len, q4.len] at h2
    refine .inr (.inl ⟨p, p2, xs, ys, rfl, rfl, ok.K ▸ sqT_up r.base.sameF q1, ok.K ▸ sqT_up r.base.sameF q3, line_le h2, fun e0 => ?_, fun e0 e1 => ?_, fun e0 e1 p3 hp => k.tup r hp (q2.app q4)⟩)
    · have el := q2.nil_iff.mp e0
      subst el
      exact k.now r hu0
    · have em := q4.nil_iff.mp e1
      subst em
      rw [List.append_nil] at k
      exact k.now r hv0
  · cases e <;> first | (cases h; done) | skip
    rename_i l m
    have h' : flst (l ++ m) = some z := h
    obtain ⟨rfl, h2⟩ := flst_of h'
    obtain ⟨p, xs, rfl, q1, q2⟩ := lst_of hv
    obtain ⟨p2, ys, rfl, q3, q4⟩ := lst_of hu
    rw [List.length_append, q2.len, q4.len] at h2
    exact .inr (.inr ⟨p, p2, xs, ys, rfl, rfl, r.base.sameF _ _ q1, r.base.sameF _ _ q3, line_le h2, fun p3 hp => k.lst r hp (q2.app q4)⟩)
end
end Tee
set_option maxRecDepth 100000
set_option maxHeartbeats 4000000
/-! Comparisons, subscripts, slices of trees. -/
namespace Tee
open PySem PySem.Spec PyProof.Rows L2
open PySem.SeqAt

/-- both lists of trees, one by one -/
theorem run_eq {n : Nat} {A : Around} {s : Shared} (hu : A.in1.units + n < cLine) : ∀ (l m : List D) (us vs : List Value) (r : Bool), eqL (eqD n) l m = some r → AtL s.heap l us → AtL s.heap m vs →
    RunC A.in1 s (fun _ _ r => r = false) (decide (l.length = m.length)) (us.zip vs) r := by
  intro l
  induction l with
  | nil =>
    intro m us vs r h hl hm
    rw [AtL] at hl
    subst hl
    cases m with
    | nil =>
      simp only [eqL, Option.some.injEq] at h
      rw [← h]
      rfl
    | cons d m =>
      simp only [eqL, Option.some.injEq] at h
      rw [← h]
      rfl
  | cons d l ih =>
    intro m us vs r h hl hm
    rw [AtL] at hl
    obtain ⟨u, us', rfl, h1, h2⟩ := hl
    cases m with
    | nil =>
      rw [AtL] at hm
      subst hm
      simp only [eqL, Option.some.injEq] at h
      rw [← h]
      rfl
    | cons d2 m =>
      rw [AtL] at hm
      obtain ⟨v, vs', rfl, k1, k2⟩ := hm
      rw [eqL] at h
      cases e : eqD n d d2 with
      | none =>
        rw [e] at h
        cases h
      | some c =>
        rw [e] at h
        have q := eqAt_tree n d d2 u v c A.in1 s e h1 k1 hu
        cases c with
        | true =>
          refine .inl ⟨q, ?_⟩
          have e2 : decide ((d :: l).length = (d2 :: m).length) = decide (l.length = m.length) := by simp
          rw [e2]
          exact ih m us' vs' r h h2 k2
        | false =>
          have h' : some false = some r := h
          exact .inr ⟨q, (Option.some.inj h').symm⟩
section
variable {X : Cx} {b : Bd} {F : Hp}
/-! ### ==, != -/
def rEqT (b : Bd) : R2 := fun x y H Q => ∃ F d e r, Same F H ∧ Rep b F d x ∧ Rep b F e y ∧ kin d e = true ∧ eqv d e = some r ∧ Q (.bl r) H
theorem op_eqT (ok : Okb b X) : OpR X (compareOp .Eq) (rEqT b) := by
  intro pins s σ H x y v u Q I rx ry ⟨F, d, e, r, sm, h1, h2, hk, he, q⟩
  have a1 := rep_at ok I sm d h1 rx
  have a2 := rep_at ok I sm e h2 ry
  have un := ok.un
  have fin : EP X pins σ Q (.bool r) s := ⟨.bl r, H, I, rfl, q⟩
  cases d with
  | int i =>
    cases e with
    | int j =>
      simp only [At] at a1 a2
      obtain ⟨t, rfl⟩ := a1
      obtain ⟨t', rfl⟩ := a2
      have h' : some (ieq i j) = some r := he
      refine eq_int ?_
      rw [← ieq_iff, Option.some.inj h']
      exact fin
    | _ => cases hk
  | sym i =>
    cases e with
    | sym j =>
      simp only [At] at a1 a2
      obtain ⟨t, rfl⟩ := a1
      obtain ⟨t', rfl⟩ := a2
      have h' : some (Nat.beq i.nn j.nn) = some r := he
      refine eq_str ?_
      rw [← sym_eq, Option.some.inj h']
      exact fin
    | _ => cases hk
  | bl i =>
    cases e with
    | bl j =>
      simp only [At] at a1 a2
      subst a1 a2
      have h' : some (i == j) = some r := he
      refine eq_bool ?_
      rw [Option.some.inj h']
      exact fin
    | _ => cases hk
  | non =>
    cases e with
    | non =>
      simp only [At] at a1 a2
      subst a1 a2
      have h' : some true = some r := he
      have h2 := Option.some.inj h'
      refine PySem.EqNone.eq_none_none ?_
      rw [h2]
      exact fin
    | _ => cases hk
  | tup l =>
    cases e with
    | tup m =>
      simp only [At] at a1 a2
      obtain ⟨p, items, rfl, t1, c1⟩ := a1
      obtain ⟨p2, items2, rfl, t2, c2⟩ := a2
      have h' : eqL (eqD 7) l m = some r := he
      have l1 := c1.len
      have l2 := c2.len
      rw [Array.length_toList] at l1 l2
      have z := run_eq (A := X.A) (n := 7) (by rw [in1_units]; omega) l m items.toList items2.toList r h' c1 c2
      have e1 : (items.size == items2.size) = decide (l.length = m.length) := by
        rw [l1, l2]
        rw [Bool.eq_iff_iff]
        simp
      rw [← e1] at z
      exact rcEq_tuples t1 t2 (by omega) z X.prog X.w X.xe _ fin
    | _ => cases hk
  | _ => cases e <;> cases hk
theorem v_eq : Val2 b oEq (rEqT b) := fun F G S σ H d e v u z Q h r hv hu k => by
  unfold oEq at h
  split at h
  · rename_i hk
    cases he : eqv d e with
    | none =>
      rw [he] at h
      cases h
    | some c =>
      rw [he] at h
      cases h
      exact ⟨F, d, e, c, r.base.sameF, hv, hu, hk, he, k.now r Rep.bl'⟩
  · cases h
theorem v_ne : Val2 b oNe rNe := fun F G S σ H d e v u z Q h r hv hu k => by
  cases d <;> first | (cases h; done) | skip
  · cases e <;> first | (cases h; done) | skip
    rename_i i j
    have h' : some (D.bl (!(i == j))) = some z := h
    have h2 := Option.some.inj h'
    subst h2
    rw [Rep] at hv hu
    subst hv hu
    refine ⟨rfl, ?_⟩
    rw [dec_bl]
    exact k.now r Rep.bl'
  · cases e <;> first | (cases h; done) | skip
    rename_i i j
    have h' : some (D.bl (!(ieq i j))) = some z := h
    have h2 := Option.some.inj h'
    subst h2
    rw [Rep] at hv hu
    subst hv hu
    refine ⟨rfl, ?_⟩
    rw [dec_int]
    rw [ieq_iff] at k
    exact k.now r Rep.bl'
/-! ### < -/
def rLtD (b : Bd) : R2 := fun x y H Q => ∃ F d e r, Same F H ∧ Rep b F d x ∧ Rep b F e y ∧ ltv d e = some r ∧ Q (.bl r) H
theorem op_ltD (ok : Okb b X) : OpR X (compareOp .Lt) (rLtD b) := by
  intro pins s σ H x y v u Q I rx ry ⟨F, d, e, r, sm, h1, h2, he, q⟩
  have un := ok.un
  exact rcLt_tree 8 d e v u r X.A s he (rep_at ok I sm d h1 rx) (rep_at ok I sm e h2 ry) (by omega) X.prog X.w X.xe _ ⟨.bl r, H, I, rfl, q⟩
theorem v_lt : Val2 b oLt (rLtD b) := fun F G S σ H d e v u z Q h r hv hu k => by
  unfold oLt at h
  cases he : ltv d e with
  | none =>
    rw [he] at h
    cases h
  | some c =>
    rw [he] at h
    cases h
    exact ⟨F, d, e, c, r.base.sameF, hv, hu, he, k.now r Rep.bl'⟩
/-! ### in, not in -/
theorem mem_each {x : D} : ∀ {l : List D} {r : Bool}, memD x l = some r → ∀ d ∈ l, ∃ c, eqv d x = some c ∧ (c = true → r = true)
  | [], _, _, d, hd => by cases hd
  | y :: l, r, h, d, hd => by
    rw [memD] at h
    cases e1 : eqv y x with
    | none =>
      rw [e1] at h
      cases h
    | some a =>
      rw [e1] at h
      cases e2 : memD x l with
      | none =>
        rw [e2] at h
        cases h
      | some c =>
        rw [e2] at h
        have h' : some (a || c) = some r := h
        have h2 := Option.some.inj h'
        rcases List.mem_cons.mp hd with rfl | hd
        · refine ⟨a, e1, fun z => ?_⟩
          rw [← h2, z]
          rfl
        · obtain ⟨q, q1, q2⟩ := mem_each e2 d hd
          refine ⟨q, q1, fun z => ?_⟩
          rw [← h2, q2 z, Bool.or_true]
theorem mem_yes {x : D} : ∀ {l : List D}, memD x l = some true → ∃ d ∈ l, eqv d x = some true
  | [], h => by cases h
  | y :: l, h => by
    rw [memD] at h
    cases e1 : eqv y x with
    | none =>
      rw [e1] at h
      cases h
    | some a =>
      rw [e1] at h
      cases e2 : memD x l with
      | none =>
        rw [e2] at h
        cases h
      | some c =>
        rw [e2] at h
        have h' : some (a || c) = some true := h
        have h2 := Option.some.inj h'
        cases a with
        | true => exact ⟨y, List.mem_cons_self, e1⟩
        | false =>
          rw [Bool.false_or] at h2
          subst h2
          obtain ⟨d, m, q⟩ := mem_yes e2
          exact ⟨d, List.mem_cons_of_mem _ m, q⟩
-- the items' answers
open Classical in
noncomputable def ansD (h : Heap) (l : List D) (x : D) (u : Value) : Bool := decide (∃ d ∈ l, At h d u ∧ eqv d x = some true)
open Classical in
theorem ans_at {s : Shared} {A : Around} {l : List D} {us : List Value} {x : D} {u : Value} {r : Bool} (hu : A.units + 8 < cLine) (hk : l.all (keyD 7) = true) (ha : AtL s.heap l us) (hx : At s.heap x u) (hm : memD x l = some r) : (∀ y ∈ us, EqAt A s y u (ansD s.heap l x y)) ∧ us.any (ansD s.heap l x) = r := by
  have key : ∀ y ∈ us, ∃ d ∈ l, At s.heap d y ∧ ∃ c, eqv d x = some c ∧ ansD s.heap l x y = c ∧ (c = true → r = true) := fun y hy => by
    obtain ⟨d, md, ad⟩ := ha.mem y hy
    obtain ⟨c, c1, c2⟩ := mem_each hm d md
    refine ⟨d, md, ad, c, c1, ?_, c2⟩
    cases c with
    | true =>
      unfold ansD
      exact decide_eq_true ⟨d, md, ad, c1⟩
    | false =>
      unfold ansD
      refine decide_eq_false fun ⟨d', md', ad', c1'⟩ => ?_
      have e : d = d' := key_inj (List.all_eq_true.mp hk d md) (List.all_eq_true.mp hk d' md') ad ad'
      rw [← e, c1] at c1'
      cases c1'
  refine ⟨fun y hy => ?_, ?_⟩
  · obtain ⟨d, md, ad, c, c1, c2, _⟩ := key y hy
    rw [c2]
    exact eqAt_tree 8 d x y u c A s c1 ad hx hu
  · cases r with
    | true =>
      obtain ⟨d, md, c1⟩ := mem_yes hm
      have : ∃ y ∈ us, At s.heap d y := by
        clear key hm hx hk
        induction l generalizing us with
        | nil => cases md
        | cons e l ih =>
          simp only [AtL] at ha
          obtain ⟨w, t, rfl, w1, w2⟩ := ha
          rcases List.mem_cons.mp md with rfl | md
          · exact ⟨w, List.mem_cons_self, w1⟩
          · obtain ⟨y, my, ay⟩ := ih w2 md
            exact ⟨y, List.mem_cons_of_mem _ my, ay⟩
      obtain ⟨y, my, ay⟩ := this
      exact List.any_eq_true.mpr ⟨y, my, by unfold ansD; exact decide_eq_true ⟨d, md, ay, c1⟩⟩
    | false =>
      rw [List.any_eq_false]
      intro y hy z
      obtain ⟨d, md, ad, c, c1, c2, c3⟩ := key y hy
      rw [c2] at z
      have := c3 z
      cases this
def rInD (b : Bd) (neg : Bool) : R2 := fun x y H Q => ∃ F d l p vs r, Same F H ∧ Rep b F d x ∧ y = .ref p ∧ (SqT b.K H p vs ∨ SqL b.K H p vs) ∧ RepL b F l vs ∧ l.all (keyD 7) = true ∧ memD d l = some r ∧ Q (.bl (if neg then !r else r)) H
theorem op_inD (ok : Okb b X) : OpR X (compareOp .In) (rInD b false) := by
  intro pins s σ H x y v u Q I rx ry ⟨F, d, l, p, vs, r, sm, h1, e, hp, h2, hk, hm, q⟩
  subst e
  obtain rfl : u = Value.ref p := ry
  have un := ok.un
  have ax := rep_at ok I sm d h1 rx
  rw [ok.K] at hp
  rcases hp with hp | hp
  · obtain ⟨its, rv, tp, _⟩ := I.tuple hp
    obtain ⟨z1, z2⟩ := ans_at (A := X.A.in1) (by rw [in1_units]; omega) hk (repL_at ok I sm l h2 rv) ax hm
    refine in_tupleAt (ansD s.heap l d) tp (fun y hy => z1 y (by simpa using hy)) ?_
    rw [List.any_toArray, z2]
    exact ⟨.bl r, H, I, rfl, q⟩
  · obtain ⟨its, rv, pl, _⟩ := I.list hp
    obtain ⟨z1, z2⟩ := ans_at (A := X.A.in1) (by rw [in1_units]; omega) hk (repL_at ok I sm l h2 rv) ax hm
    refine in_listAt (ansD s.heap l d) pl.isList (fun y hy => z1 y (by simpa using hy)) ?_
    rw [List.any_toArray, z2]
    exact ⟨.bl r, H, I, rfl, q⟩
theorem op_ninD (ok : Okb b X) : OpR X (compareOp .NotIn) (rInD b true) := by
  intro pins s σ H x y v u Q I rx ry ⟨F, d, l, p, vs, r, sm, h1, e, hp, h2, hk, hm, q⟩
  subst e
  obtain rfl : u = Value.ref p := ry
  have un := ok.un
  have ax := rep_at ok I sm d h1 rx
  rw [ok.K] at hp
  rcases hp with hp | hp
  · obtain ⟨its, rv, tp, _⟩ := I.tuple hp
    obtain ⟨z1, z2⟩ := ans_at (A := X.A.in1) (by rw [in1_units]; omega) hk (repL_at ok I sm l h2 rv) ax hm
    refine notIn_tupleAt (ansD s.heap l d) tp (fun y hy => z1 y (by simpa using hy)) ?_
    rw [List.any_toArray, z2]
    exact ⟨.bl (!r), H, I, rfl, q⟩
  · obtain ⟨its, rv, pl, _⟩ := I.list hp
    obtain ⟨z1, z2⟩ := ans_at (A := X.A.in1) (by rw [in1_units]; omega) hk (repL_at ok I sm l h2 rv) ax hm
    refine notIn_listAt (ansD s.heap l d) pl.isList (fun y hy => z1 y (by simpa using hy)) ?_
    rw [List.any_toArray, z2]
    exact ⟨.bl (!r), H, I, rfl, q⟩
theorem in_case {neg : Bool} {g : D → D → Option D} (hg : ∀ d e z, g d e = some z → ∃ l r, (e = .tup l ∨ e = .lst l) ∧ l.all (keyD 7) = true ∧ memD d l = some r ∧ z = .bl (if neg then !r else r)) : Val2 b g (rInD b neg) := fun F G S σ H d e v u z Q h r hv hu k => by
  obtain ⟨l, c, he, hk, hm, rfl⟩ := hg d e z h
  rcases he with rfl | rfl
  · obtain ⟨p, vs, e1, q1, q2⟩ := tup_of hu
    exact ⟨F, d, l, p, vs, c, r.base.sameF, hv, e1, .inl (sqT_up r.base.sameF q1), q2, hk, hm, k.now r Rep.bl'⟩
  · obtain ⟨p, vs, e1, q1, q2⟩ := lst_of hu
    exact ⟨F, d, l, p, vs, c, r.base.sameF, hv, e1, .inr (SqL.of (r.base.sameF _ _ q1)), q2, hk, hm, k.now r Rep.bl'⟩
theorem v_in : Val2 b oIn (rInD b false) := in_case fun d e z h => by
  cases e <;> first | (cases h; done) | skip
  all_goals
    rename_i l
    unfold oIn at h
    dsimp only at h
    split at h
    · rename_i hk
      cases hm : memD d l with
      | none =>
        rw [hm] at h
        cases h
      | some r =>
        rw [hm] at h
        cases h
        first | exact ⟨l, r, .inl rfl, hk, hm, rfl⟩ | exact ⟨l, r, .inr rfl, hk, hm, rfl⟩
    · cases h
theorem v_nin : Val2 b oNotIn (rInD b true) := in_case fun d e z h => by
  cases e <;> first | (cases h; done) | skip
  all_goals
    rename_i l
    unfold oNotIn at h
    dsimp only at h
    split at h
    · rename_i hk
      cases hm : memD d l with
      | none =>
        rw [hm] at h
        cases h
      | some r =>
        rw [hm] at h
        cases h
        first | exact ⟨l, r, .inl rfl, hk, hm, rfl⟩ | exact ⟨l, r, .inr rfl, hk, hm, rfl⟩
    · cases h
/-! ### is None -/
theorem rep_non {d : D} {v : V} (h : Rep b F d v) : (v = .non ↔ d = .non) := by
  cases d
  case non => rw [Rep] at h; simp [h]
  case bl => rw [Rep] at h; simp [h]
  case int => rw [Rep] at h; simp [h]
  case sym => rw [Rep] at h; simp [h]
  case fn => rw [Rep] at h; simp [h]
  case tup => rw [Rep] at h; obtain ⟨_, _, e, _⟩ := h; simp [e]
  case lst => rw [Rep] at h; obtain ⟨_, _, e, _⟩ := h; simp [e]
  case dct => rw [Rep] at h; obtain ⟨_, _, _, e, _⟩ := h; simp [e]
  case ins => rw [Rep] at h; obtain ⟨_, _, _, e, _⟩ := h; simp [e]
theorem v_isN : Val1 b oIsN fun x H Q => Q (.bl (decide (x = .non))) H := fun F G S σ H d v z Q h r hv k => by
  have e := rep_non hv
  have hz : z = .bl (decide (v = .non)) := by
    cases d <;> (cases h; simp [e])
  subst hz
  exact k.now r Rep.bl'
theorem v_notN : Val1 b oNotN fun x H Q => Q (.bl (!decide (x = .non))) H := fun F G S σ H d v z Q h r hv k => by
  have e := rep_non hv
  have hz : z = .bl (!decide (v = .non)) := by
    cases d <;> (cases h; simp [e])
  subst hz
  exact k.now r Rep.bl'
variable {a : Expr} {ma : M} {pos pos' : Pos}
theorem r_isN {j} (ha : PE X a (tE b ma)) : PE X (.Compare a [.Is] [.Constant .none j pos'] pos) (tE b (e1 oIsN ma)) := (pe_cmp (pc_isN ha) rfl).weak fun _ _ _ q => e1_w v_isN q
theorem r_notN {j} (ha : PE X a (tE b ma)) : PE X (.Compare a [.IsNot] [.Constant .none j pos'] pos) (tE b (e1 oNotN ma)) := (pe_cmp (pc_notN ha) rfl).weak fun _ _ _ q => e1_w v_notN q
theorem r_isNT {j} (ha : PE X a (tE b ma)) : PT X (.Compare a [.Is] [.Constant .none j pos'] pos) (tT b (e1 oIsN ma)) := (pt_cmp (pc_isN ha) rfl).weak fun _ _ _ q => e1_w v_isN (tT_tE q)
theorem r_notNT {j} (ha : PE X a (tE b ma)) : PT X (.Compare a [.IsNot] [.Constant .none j pos'] pos) (tT b (e1 oNotN ma)) := (pt_cmp (pc_notN ha) rfl).weak fun _ _ _ q => e1_w v_notN (tT_tE q)
end
end Tee
set_option maxRecDepth 100000
set_option maxHeartbeats 4000000
/-! Dicts, subscripts. -/
namespace Tee
open PySem PySem.Spec PyProof.Rows L2
/-- a dict of trees stands at x -/
def DV (b : Bd) (F H : Hp) (ks vs : List D) (x : V) : Prop := ∃ a es, x = .ref a ∧ Rd H a (dicO a es) ∧ KeyR b F ks es ∧ RepL b F vs (es.map (·.2.2))
section
variable {X : Cx} {b : Bd} {F H : Hp} {S : Ss} {σ : Sg} {G : Gh}
theorem DV.of_rep {ks vs : List D} {x : V} (sm : Same F H) (h : Rep b F (.dct ks vs) x) : DV b F H ks vs x := by
  rw [Rep] at h
  obtain ⟨a, o, es, e, q, r1, r2⟩ := h
  exact ⟨a, es, e, .inr ⟨o, sm _ _ q⟩, r1, r2⟩
theorem DV.of_slot {ks vs : List D} {x : V} (h : SlOk b F H (.dv ks vs) (some (some x))) : DV b F H ks vs x := by
  obtain ⟨a, es, e, h1, _, _, h2, h3⟩ := h
  cases e
  exact ⟨a, es, rfl, .inl h1, h2, h3⟩
theorem find_of {k : D} {ks vs : List D} {r : Option D} (h : dFind k ks vs = some r) : keyD 7 k = true ∧ isTup k = true ∧ dGet k ks vs = some r := by
  unfold dFind at h
  split at h
  · rename_i hk
    rw [Bool.and_eq_true] at hk
    exact ⟨hk.1, hk.2, h⟩
  · cases h
def LookP (b : Bd) (F : Hp) (xs : List (D × Addr × Value)) (k : D) : Option D → Prop
  | none => atKey xs k = none
  | some v => ∃ p w, atKey xs k = some p ∧ RelV w p.2 ∧ Rep b F v w
/-- what is found under a key -/
theorem look_of (ok : Okb b X) {pins : List (Addr × Obj)} {s : Shared} (I : Inv X pins σ H s) (sm : Same F H) {ks vs : List D} {k : D} {r : Option D} {x y : V} {u : Value} (hx : DV b F H ks vs x) (hy : Rep b F k y) (ry : RelV y u) (hf : dFind k ks vs = some r) :
    ∃ a c xs, x = .ref a ∧ u = .ref c ∧ (a == sysModules) = false ∧ (treeK X.prog X.w).is s.heap k c ∧ s.heap.DictOfH (treeK X.prog X.w) a xs ∧ LookP b F xs k r := by
  obtain ⟨a, es, rfl, hr, kr, rl⟩ := hx
  obtain ⟨k1, k2, hg⟩ := find_of hf
  obtain ⟨c, rfl⟩ := rep_tup k2 hy
  obtain rfl : u = Value.ref c := ry
  obtain ⟨p1, p2, us, rv, l1, l2, dd⟩ := rows_of ok I sm hr kr
  refine ⟨a, c, _, rfl, rfl, p1, ⟨k1, k2, rep_at ok I sm k hy rfl⟩, dd, ?_⟩
  have z := look_rows k1 hg kr.2.2.1 rl rv l1
  cases r with
  | none => exact z
  | some v => exact z
theorem room_of (ok : Okb b X) : (treeK X.prog X.w).room X.A.in1 := by
  have := ok.un
  show X.A.in1.units + 10 < cLine
  rw [in1_units]
  omega
/-- d[k] -/
def rIxD (b : Bd) : R2 := fun x y H Q => ∃ F ks vs k v, Same F H ∧ DV b F H ks vs x ∧ Rep b F k y ∧ dFind k ks vs = some (some v) ∧ ∀ w, Rep b F v w → Q w H
theorem ix_dict (ok : Okb b X) : IxR X (rIxD b) := by
  intro value slice pins s σ H x y v u Q I rx ry ⟨F, ks, vs, k, d, sm, hx, hy, hf, q⟩ hs
  obtain ⟨a, c, xs, rfl, rfl, hd, hk, dd, p, w, hp, rw', rp⟩ := look_of ok I sm hx hy ry hf
  obtain rfl : v = Value.ref a := rx
  exact tail_any dd.typeIs PySem.F.slot_dict_getitem.lookup (wpAny_getItem_heap (room_of ok) hk dd hp ⟨w, H, I.tok _, rw', q w rp⟩) hs
/-- k in d -/
def rInK (b : Bd) : R2 := fun y x H Q => ∃ F ks vs k r, Same F H ∧ DV b F H ks vs x ∧ Rep b F k y ∧ dFind k ks vs = some r ∧ Q (.bl r.isSome) H
theorem op_inK (ok : Okb b X) : OpR X (compareOp .In) (rInK b) := by
  intro pins s σ H y x u v Q I ry rx ⟨F, ks, vs, k, r, sm, hx, hy, hf, q⟩
  obtain ⟨a, c, xs, rfl, rfl, hd, hk, dd, p⟩ := look_of ok I sm hx hy ry hf
  obtain rfl : v = Value.ref a := rx
  refine wpAny_in_heap (room_of ok) hk hd dd ?_
  cases r with
  | none =>
    have p' : atKey xs k = none := p
    rw [p']
    exact ⟨.bl _, H, I.tok _, rfl, q⟩
  | some d =>
    obtain ⟨p', w, e1, _⟩ := p
    rw [e1]
    exact ⟨.bl _, H, I.tok _, rfl, q⟩
/-- d.get(k, x) -/
theorem d_getT (ok : Okb b X) {pins : List (Addr × Obj)} {s : Shared} {Q : VK} (I : Inv X pins σ H s) (sm : Same F H) {ks vs : List D} {k : D} {r : Option D} {x y z : V} {xv u t : Value} (rx : RelV x xv) (hx : DV b F H ks vs x) (hy : Rep b F k y) (ry : RelV y u) (rz : RelV z t) (hf : dFind k ks vs = some r)
    (q0 : r = none → Q z H) (q1 : ∀ v, r = some v → ∀ w, Rep b F v w → Q w H) : wpAny (model X.prog X.w) X.A (call (.builtin "dict.get") [xv, u, t]) (EP X pins σ Q) X.xe s := by
  obtain ⟨a, c, xs, rfl, rfl, hd, hk, dd, p⟩ := look_of ok I sm hx hy ry hf
  obtain rfl : xv = Value.ref a := rx
  refine call_meetsIn PySem.F.slot_dict_get dd.typeIs PySem.F.entry_dict_get (PySem.F.args_dict_get_3 _ _ _) (meetsH_dict_get_default (treeK X.prog X.w) a c hd t) ⟨room_of ok, k, xs, hk, dd, ?_⟩
  cases r with
  | none =>
    have p' : atKey xs k = none := p
    rw [p']
    exact ⟨z, H, I.tok _, rz, q0 rfl⟩
  | some d =>
    obtain ⟨p', w, e1, e2, e3⟩ := p
    rw [e1]
    exact ⟨w, H, I.tok _, e2, q1 d rfl w e3⟩
/-- the dict at a becomes one that holds v under k -/
theorem dic_put {P : Program} {w : World} {h' : Heap} {H' : Hp} {a : Addr} {ks' : List D} {es' : List Rw3} {us' : List Value} (kr : KeyR b F ks' es') (hw : b.w = w) (rv : Vals (es'.map (·.2.2)) us') (hd : (a == sysModules) = false) (hl : es'.length ≤ sizeLine)
    (dd : h'.DictOfH (treeK P w) a (rowsD ks' es' us')) : ObjOk P w H' h' a (dicO a es') := by
  obtain ⟨o, ds, ep, e1, e2, e3, e4, _, _⟩ := dd
  have l2 : es'.length = us'.length := by
    have := rv.length
    rwa [List.length_map] at this
  refine dicO_ok ⟨hd, hl, us', rv, o, ds, ep, e1, e2, e3, ?_⟩
  rw [e4]
  exact (rowsD_raw (by rw [kr.2.1, hw]) l2).symm
/-- d[k] = v -/
theorem d_setT (ok : Okb b X) {pins : List (Addr × Obj)} {s : Shared} {R : Unit → Shared → Prop} (I : Inv X pins σ H s) (sm : Same F H) {a : Addr} {es : List Rw3} {ks vs ks' vs' : List D} {k v : D} {y z : V} {u t : Value} (ha : H a = some (dicO a es)) (kr : KeyR b F ks es) (rl : RepL b F vs (es.map (·.2.2)))
    (hy : Rep b F k y) (ry : RelV y u) (hz : Rep b F v z) (rz : RelV z t) (hf : dSet k v ks vs = some (ks', vs'))
    (q : ∀ es' s', KeyR b F ks' es' → RepL b F vs' (es'.map (·.2.2)) → Inv X pins σ (upd H a (dicO a es')) s' → R () s') : wpAny (model X.prog X.w) X.A (setItem (.ref a) u t) R X.xe s := by
  unfold dSet at hf
  split at hf
  · rename_i hk
    rw [Bool.and_eq_true, Bool.and_eq_true] at hk
    obtain ⟨hfew, k1, k2⟩ := hk
    obtain ⟨c, rfl⟩ := rep_tup k2 hy
    obtain rfl : u = Value.ref c := ry
    obtain ⟨p1, p2, us, rv, l1, l2, dd⟩ := rows_of ok I sm (.inl ha) kr
    have few := few_le hfew
    refine wpAny_setItem_heap (hsz := by rw [rowsD_len l1 l2]; exact line_le few) (room_of ok) ⟨k1, k2, rep_at ok I sm k hy rfl⟩ dd fun h' dd' hs => ?_
    rw [storedX (by rw [rowsD_keys l1 l2]; exact kr.2.2.2)] at dd'
    obtain ⟨es', us', e1, e2, e3, e4, e5, _⟩ := put_rows (r := t) k1 hy rz hz hf kr rl rv
    rw [e1] at dd'
    have hl : es'.length ≤ sizeLine := by
      have : es.length ≤ 100000 := by rw [← l1]; exact few
      have := line_lt (n := 100001) (Nat.le_refl _)
      omega
    have he : ∃ o, h'.get? a = some o := let ⟨o, _, _, z, _⟩ := dd'; ⟨o, z⟩
    refine q es' _ e2 e3 (I.write (x := a) (e := a) (by rw [ha]; exact True.intro) (.inl rfl) (fun c o hc e => (hs.2 c hc).trans e) he ?_)
    exact dic_put e2 ok.w e4 p1 hl dd'
  · cases hf
end
end Tee
set_option maxRecDepth 100000
set_option maxHeartbeats 4000000
/-! Subscripts, slices, built-in functions. -/
namespace Tee
open PySem PySem.Spec PyProof.Rows L2
section
variable {X : Cx} {b : Bd} {F H : Hp}
/-! ### x[i] -/
theorem atD_atI {l : List D} {vs : List V} {i : Int} {d : D} (h : atD l i = some d) (r : RepL b F l vs) : ∃ v, atI vs i = some v ∧ Rep b F d v := by
  cases i with
  | ofNat n =>
    have h' : l[n]? = some d := h
    obtain ⟨v, e1, e2⟩ := r.get h'
    exact ⟨v, atI_nat e1, e2⟩
  | negSucc n =>
    unfold atD at h
    dsimp only at h
    split at h
    · rename_i hn
      have hn' : n + 1 ≤ l.length := Nat.le_of_ble_eq_true hn
      obtain ⟨v, e1, e2⟩ := r.get h
      have hl := r.len
      refine ⟨v, ?_, e2⟩
      unfold atI ixN
      rw [if_neg (by omega), if_pos (by omega)]
      have e3 : (Int.negSucc n + (vs.length : Int)).toNat = l.length - (n + 1) := by omega
      rw [Option.bind_some, e3]
      exact e1
    · cases h
def rIxA (b : Bd) (K : PySem.W.Frag) : R2 := fun x y H Q => rIxT K x y H Q ∨ (rIxL K x y H Q ∨ rIxD b x y H Q)
theorem ix_any (ok : Okb b X) : IxR X (rIxA b X.K) := ix_tup.or (ix_list.or (ix_dict ok))
theorem v_ix (ok : Okb b X) : Val2 b oIx (rIxA b X.K) := fun F G S σ H d e v u z Q h r hv hu k => by
  cases d <;> first | (cases h; done) | skip
  · cases e <;> first | (cases h; done) | skip
    obtain ⟨p, vs, rfl, q1, q2⟩ := tup_of hv
    obtain ⟨w, e1, e2⟩ := atD_atI h q2
    exact .inl ⟨p, vs, _, w, rfl, int_of hu, ok.K ▸ sqT_up r.base.sameF q1, e1, k.now r e2⟩
  · cases e <;> first | (cases h; done) | skip
    obtain ⟨p, vs, rfl, q1, q2⟩ := lst_of hv
    obtain ⟨w, e1, e2⟩ := atD_atI h q2
    exact .inr (.inl ⟨p, vs, _, w, rfl, int_of hu, SqL.of (r.base.sameF _ _ q1), e1, k.now r e2⟩)
  · rename_i ks vs
    have h' : (match dFind e ks vs with
      | some (some v) => some v
      | _ => none) = some z := by
      cases e <;> exact h
    split at h'
    · rename_i w hf
      cases h'
      exact .inr (.inr ⟨F, ks, vs, e, _, r.base.sameF, DV.of_rep r.base.sameF hv, hu, hf, fun w rw' => k.now r rw'⟩)
    · cases h'
theorem r_ix {a i : Expr} {pos : Pos} {ma mi : M} (ok : Okb b X) (ha : PE X a (tE b ma)) (hi : PE X i (tE b mi)) (hs : PlainIx i) : PE X (.Subscript a i pos) (tE b (e2 oIx ma mi)) := (pe_ix (ix_any ok) ha hi hs).weak fun _ _ _ q => e2_w (v_ix ok) q
/-! ### slices -/
theorem cut_take {vs : List V} {n : Nat} : cutV vs none (some (n : Int)) = vs.take n := by
  unfold cutV
  rw [HT.sIx_none, HT.sIx_nat, List.drop_zero, Nat.sub_zero]
  by_cases h : n ≤ vs.length
  · rw [Nat.min_eq_left h]
  · rw [Nat.min_eq_right (by omega), List.take_length, List.take_of_length_le (by omega)]
theorem cut_drop {vs : List V} {n : Nat} : cutV vs (some (n : Int)) none = vs.drop n := by
  unfold cutV
  rw [HT.sIx_none, HT.sIx_nat]
  by_cases h : n ≤ vs.length
  · rw [Nat.min_eq_left h, List.take_of_length_le (by rw [List.length_drop]; omega)]
  · rw [Nat.min_eq_right (by omega), List.drop_length, List.drop_eq_nil_of_le (by omega)]
    simp
theorem cut_both {vs : List V} {n m : Nat} : cutV vs (some (n : Int)) (some (m : Int)) = (vs.take m).drop n := by
  unfold cutV
  rw [HT.sIx_nat, HT.sIx_nat, List.drop_take]
  by_cases h : n ≤ vs.length
  · rw [Nat.min_eq_left h]
    by_cases h2 : m ≤ vs.length
    · rw [Nat.min_eq_left h2]
    · rw [Nat.min_eq_right (by omega), List.take_of_length_le (by rw [List.length_drop]; omega), List.take_of_length_le (by rw [List.length_drop]; omega)]
  · have e1 : vs.drop n = [] := List.drop_eq_nil_of_le (by omega)
    have e2 : min n vs.length = vs.length := Nat.min_eq_right (by omega)
    rw [e2, e1, List.drop_length]
    simp
def rSlX (K : PySem.W.Frag) : V → Option Int → Option Int → Hp → VK → Prop := fun x lo hi H Q => rSlA K x lo hi H Q ∨ rSlL K x lo hi H Q
theorem sl_any : SlR X (rSlX X.K) := sl_tupA.or sl_list
theorem whole_cut {vs : List V} {lo hi : Option Int} (h : HT.sIx vs.length 0 lo = 0 ∧ HT.sIx vs.length vs.length hi = vs.length) : cutV vs lo hi = vs := by
  unfold cutV
  rw [h.1, h.2, List.drop_zero, Nat.sub_zero, List.take_length]
/-- a cut of trees -/
theorem sl_rep (ok : Okb b X) {G : Gh} {S : Ss} {σ : Sg} {Q : VK} {d z : D} {v : V} {lo hi : Option Int} (f : List D → List D) (g : List V → List V) (hf : ∀ l vs, RepL b F l vs → RepL b F (f l) (g vs)) (hg : ∀ vs, cutV vs lo hi = g vs)
    (hz : (∃ l, d = .tup l ∧ z = .tup (f l)) ∨ ∃ l, d = .lst l ∧ z = .lst (f l)) (r : Rel b F G S σ H) (hv : Rep b F d v) (k : Got b F G S σ z Q) : rSlX X.K v lo hi H Q := by
  rcases hz with ⟨l, rfl, rfl⟩ | ⟨l, rfl, rfl⟩
  · have hv0 := hv
    obtain ⟨p, vs, rfl, q1, q2⟩ := tup_of hv
    refine .inl ⟨p, vs, rfl, ok.K ▸ sqT_up r.base.sameF q1, fun hw => ?_, fun hw p2 hp => ?_⟩
    · have e := whole_cut hw
      rw [hg] at e
      have q3 := hf l vs q2
      rw [e] at q3
      refine k.now r ?_
      rw [Rep]
      exact ⟨p, vs, rfl, q1, q3⟩
    · rw [hg]
      exact k.tup r hp (hf l vs q2)
  · obtain ⟨p, vs, rfl, q1, q2⟩ := lst_of hv
    refine .inr ⟨p, vs, rfl, SqL.of (r.base.sameF _ _ q1), fun p2 hp => ?_⟩
    rw [hg]
    exact k.lst r hp (hf l vs q2)
theorem slc_take {d z : D} {n : Nat} (h : oSlc none (some (.ofNat n)) d = some z) : (∃ l, d = .tup l ∧ z = .tup (l.take n)) ∨ ∃ l, d = .lst l ∧ z = .lst (l.take n) := by
  cases d <;> first | (cases h; done) | skip
  · cases h
    exact .inl ⟨_, rfl, rfl⟩
  · cases h
    exact .inr ⟨_, rfl, rfl⟩
theorem slc_drop {d z : D} {n : Nat} (h : oSlc (some (.ofNat n)) none d = some z) : (∃ l, d = .tup l ∧ z = .tup (l.drop n)) ∨ ∃ l, d = .lst l ∧ z = .lst (l.drop n) := by
  cases d <;> first | (cases h; done) | skip
  · cases h
    exact .inl ⟨_, rfl, rfl⟩
  · cases h
    exact .inr ⟨_, rfl, rfl⟩
theorem slc_both {d z : D} {n m : Nat} (h : oSlc (some (.ofNat n)) (some (.ofNat m)) d = some z) : (∃ l, d = .tup l ∧ z = .tup ((l.take m).drop n)) ∨ ∃ l, d = .lst l ∧ z = .lst ((l.take m).drop n) := by
  cases d <;> first | (cases h; done) | skip
  · cases h
    exact .inl ⟨_, rfl, rfl⟩
  · cases h
    exact .inr ⟨_, rfl, rfl⟩
theorem slc_neg {d z : D} {lo : Option Int} {n : Nat} (h : oSlc lo (some (.negSucc n)) d = some z) : False := by
  cases d <;> first | (cases h; done) | skip
  all_goals
    cases lo with
    | none => cases h
    | some i => cases i <;> cases h
theorem slc_neg' {d z : D} {hi : Option Int} {n : Nat} (h : oSlc (some (.negSucc n)) hi d = some z) : False := by
  cases d <;> first | (cases h; done) | skip
  all_goals
    cases hi with
    | none => cases h
    | some i => cases i <;> cases h
variable {a e c : Expr} {ma mb mc : M} {pos p2 : Pos}
theorem r_take (ok : Okb b X) (ha : PE X a (tE b ma)) (he : PE X e (tE b mb)) : PE X (.Subscript a (.Slice none (some e) none p2) pos) (tE b (e2 oTk ma mb)) := (pe_slice sl_any ha po_none (po_some he)).weak fun σ H Q q => by
  refine e2_w (r := fun x y H Q => ∃ i, y = .int i ∧ rSlX X.K x none (some i) H Q) (fun F G S σ H d e v u z Q h r hv hu k => ?_) q
  cases e <;> first | (cases d <;> cases h; done) | skip
  rename_i i
  have h' : oSlc none (some i) d = some z := by cases d <;> exact h
  refine ⟨i, int_of hu, ?_⟩
  cases i with
  | ofNat n => exact sl_rep ok (·.take n) (·.take n) (fun l vs q => q.take n) (fun vs => cut_take) (slc_take h') r hv k
  | negSucc n => exact (slc_neg h').elim
theorem r_drop (ok : Okb b X) (ha : PE X a (tE b ma)) (he : PE X e (tE b mb)) : PE X (.Subscript a (.Slice (some e) none none p2) pos) (tE b (e2 oDr ma mb)) := (pe_slice sl_any ha (po_some he) po_none).weak fun σ H Q q => by
  refine e2_w (r := fun x y H Q => ∃ i, y = .int i ∧ rSlX X.K x (some i) none H Q) (fun F G S σ H d e v u z Q h r hv hu k => ?_) q
  cases e <;> first | (cases d <;> cases h; done) | skip
  rename_i i
  have h' : oSlc (some i) none d = some z := by cases d <;> exact h
  refine ⟨i, int_of hu, ?_⟩
  cases i with
  | ofNat n => exact sl_rep ok (·.drop n) (·.drop n) (fun l vs q => q.drop n) (fun vs => cut_drop) (slc_drop h') r hv k
  | negSucc n => exact (slc_neg' h').elim
/-! ### attributes -/
structure Clz (b : Bd) : Prop where
  cl : Cls b.K b.CR
  no : ∀ f ∈ fields4, NoAttr b.K b.CR f
theorem fld_get : ∀ {fs : List (PySem.Str × V)} {l : List D} {k : Nat} {f : PySem.Str} {d : D}, fs.map (·.1) = fields4 → fields4[k]? = some f → RepL b F l (fs.map (·.2)) → l[k]? = some d → ∃ v, fs.lookup f = some v ∧ Rep b F d v := by
  intro fs l k f d hm hk r hl
  match fs, hm with
  | [(_, v0), (_, v1), (_, v2), (_, v3)], hm =>
    injection hm with e0 hm
    injection hm with e1 hm
    injection hm with e2 hm
    injection hm with e3 hm
    dsimp only at e0 e1 e2 e3
    subst e0 e1 e2 e3
    obtain ⟨v, g1, g2⟩ := r.get hl
    have hk4 : k < 4 := by
      have := (List.getElem?_eq_some_iff.mp hk).1
      exact this
    refine ⟨v, ?_, g2⟩
    match k, hk4, hk, g1 with
    | 0, _, hk, g1 =>
      cases hk
      cases g1
      rfl
    | 1, _, hk, g1 =>
      cases hk
      cases g1
      rfl
    | 2, _, hk, g1 =>
      cases hk
      cases g1
      rfl
    | 3, _, hk, g1 =>
      cases hk
      cases g1
      rfl
theorem r_fld {f : PySem.Str} (k : Nat) (ok : Okb b X) (cz : Clz b) (hk : fields4[k]? = some f) (ha : PE X a (tE b ma)) (hb : attributeBase a f X.env (eval a X.env) = eval a X.env) : PE X (.Attribute a f pos) (tE b (e1 (oFld k) ma)) := (pe_fld ha hb).weak fun σ H Q q => by
  refine e1_w (r := fun x H1 Q => ∃ a C dx fs v, x = .ref a ∧ H1 a = some (.ins C dx fs) ∧ Cls X.K C ∧ NoAttr X.K C f ∧ fs.lookup f = some v ∧ Q v H1) (fun F G S σ H d v z Q h r hv kk => ?_) q
  cases d <;> first | (cases h; done) | skip
  rename_i l
  rw [Rep] at hv
  obtain ⟨a, dx, fs, rfl, h1, h2, h3, h4⟩ := hv
  obtain ⟨v, g1, g2⟩ := fld_get h3 hk h4 h
  exact ⟨a, b.CR, dx, fs, v, rfl, r.base.sameF _ _ h1, ok.K ▸ cz.cl, ok.K ▸ cz.no f (List.mem_of_getElem? hk), g1, kk.now r g2⟩
/-! ### built-in functions of one argument -/
/-- len -/
def rLenX (b : Bd) (K : PySem.W.Frag) : List V → Hp → VK → Prop := fun xs H Q => (∃ p ys, xs = [.ref p] ∧ (SqL K H p ys ∨ SqT K H p ys) ∧ Q (.int ys.length) H) ∨ ∃ F ks vs x, Same F H ∧ xs = [x] ∧ DV b F H ks vs x ∧ Q (.int ks.length) H
theorem call_lenX (ok : Okb b X) : CallR X (.builtin "len") (rLenX b X.K) := call_len_seq.or (by
  intro pins s σ H xs us Q I r ⟨F, ks, vs, x, sm, e, hx, q⟩
  subst e
  obtain ⟨u, rfl, rx⟩ := vals1 r
  obtain ⟨a, es, rfl, hr, kr, rl⟩ := hx
  obtain rfl : u = Value.ref a := rx
  obtain ⟨p1, p2, us, rv, l1, l2, dd⟩ := rows_of ok I sm hr kr
  refine call_len_dictH p1 dd (by rw [rowsD_len l1 l2, l1]; rw [sizeLine_eq] at p2; omega) ?_
  exact ⟨.int ks.length, H, I.tok _, ⟨_, by rw [rowsD_len l1 l2]⟩, q⟩)
theorem v_len (ok : Okb b X) : Val1 b oLen fun v H Q => rLenX b X.K [v] H Q := fun F G S σ H d v z Q h r hv k => by
  cases d <;> first | (cases h; done) | skip
  · rename_i l
    have h' : oint l.length = some z := h
    rw [oint_eq] at h'
    obtain rfl := Option.some.inj h'
    obtain ⟨p, vs, rfl, q1, q2⟩ := tup_of hv
    refine .inl ⟨p, vs, rfl, .inr (ok.K ▸ sqT_up r.base.sameF q1), ?_⟩
    rw [← q2.len]
    exact k.now r Rep.int'
  · rename_i l
    have h' : oint l.length = some z := h
    rw [oint_eq] at h'
    obtain rfl := Option.some.inj h'
    obtain ⟨p, vs, rfl, q1, q2⟩ := lst_of hv
    refine .inl ⟨p, vs, rfl, .inl (SqL.of (r.base.sameF _ _ q1)), ?_⟩
    rw [← q2.len]
    exact k.now r Rep.int'
  · rename_i ks vs
    have h' : oint ks.length = some z := h
    rw [oint_eq] at h'
    obtain rfl := Option.some.inj h'
    exact .inr ⟨F, ks, vs, v, r.base.sameF, rfl, DV.of_rep r.base.sameF hv, k.now r Rep.int'⟩
/-- tuple, list -/
theorem v_tuple (ok : Okb b X) : Val1 b oTuple fun v H Q => ∃ p ys, [v] = [.ref p] ∧ ((SqL X.K H p ys ∧ ∀ l, H l = none → Q (.ref l) (upd H l (.tup ys))) ∨ (SqT X.K H p ys ∧ Q (.ref p) H)) := fun F G S σ H d v z Q h r hv k => by
  cases d <;> first | (cases h; done) | skip
  · cases h
    have hv0 := hv
    obtain ⟨p, vs, rfl, q1, q2⟩ := tup_of hv
    exact ⟨p, vs, rfl, .inr ⟨ok.K ▸ sqT_up r.base.sameF q1, k.now r hv0⟩⟩
  · cases h
    obtain ⟨p, vs, rfl, q1, q2⟩ := lst_of hv
    exact ⟨p, vs, rfl, .inl ⟨SqL.of (r.base.sameF _ _ q1), fun p2 hp => k.tup r hp q2⟩⟩
theorem v_int : Val1 b oInt fun v H Q => (∃ i, [v] = [V.int i] ∧ Q (.int i) H) ∨ ∃ k, [v] = [V.bl k] ∧ Q (.int (if k then 1 else 0)) H := fun F G S σ H d v z Q h r hv k => by
  cases d <;> first | (cases h; done) | skip
  · rename_i c
    cases c with
    | true =>
      cases h
      exact .inr ⟨true, by rw [bl_of hv], k.now r Rep.int'⟩
    | false =>
      cases h
      exact .inr ⟨false, by rw [bl_of hv], k.now r Rep.int'⟩
  · cases h
    exact .inl ⟨_, by rw [int_of hv], k.now r Rep.int'⟩
theorem v_abs : Val1 b oAbs fun v H Q => ∃ i, [v] = [V.int i] ∧ Q (.int (if i < 0 then -i else i)) H := fun F G S σ H d v z Q h r hv k => by
  cases d <;> first | (cases h; done) | skip
  rename_i i
  cases h
  refine ⟨i, by rw [int_of hv], ?_⟩
  have e : (if i < 0 then -i else i) = (i.natAbs : Int) := by
    by_cases h : i < 0
    · rw [if_pos h]
      omega
    · rw [if_neg h]
      omega
  rw [e]
  exact k.now r Rep.int'
theorem all_bls : ∀ {l : List D} {r : Bool} {vs : List V}, allB l = some r → RepL b F l vs → ∃ bs : List Bool, vs = bs.map V.bl ∧ bs.all id = r
  | [], r, vs, h, q => by
    cases h
    exact ⟨[], q.unnil, rfl⟩
  | d :: l, r, vs, h, q => by
    cases d <;> first | (cases h; done) | skip
    rename_i c
    obtain ⟨v, t, rfl, h1, h2⟩ := q.uncons
    rw [allB] at h
    cases e : allB l with
    | none =>
      rw [e] at h
      cases h
    | some c2 =>
      rw [e] at h
      obtain ⟨bs, z1, z2⟩ := all_bls e h2
      have h' : some (c && c2) = some r := h
      exact ⟨c :: bs, by rw [bl_of h1, z1]; rfl, by rw [List.all_cons, z2]; exact Option.some.inj h'⟩
theorem v_all : Val1 b oAll fun v H Q => rAll X.K [v] H Q := fun F G S σ H d v z Q h r hv k => by
  cases d <;> first | (cases h; done) | skip
  rename_i l
  obtain ⟨p, vs, rfl, q1, q2⟩ := lst_of hv
  have h' : ob (allB l) = some z := h
  cases e : allB l with
  | none =>
    rw [e] at h'
    cases h'
  | some c =>
    rw [e] at h'
    cases h'
    obtain ⟨bs, rfl, z2⟩ := all_bls e q2
    refine ⟨p, bs, rfl, SqL.of (r.base.sameF _ _ q1), ?_⟩
    rw [z2]
    exact k.now r Rep.bl'
theorem sum_ints : ∀ {l : List D} {i : Int} {vs : List V}, sumI l = some i → RepL b F l vs → ∃ ns : List Int, vs = ns.map V.int ∧ ns.sum = i
  | [], i, vs, h, q => by
    cases h
    exact ⟨[], q.unnil, rfl⟩
  | d :: l, i, vs, h, q => by
    cases d <;> first | (cases h; done) | skip
    rename_i c
    obtain ⟨v, t, rfl, h1, h2⟩ := q.uncons
    rw [sumI] at h
    cases e : sumI l with
    | none =>
      rw [e] at h
      cases h
    | some c2 =>
      rw [e] at h
      obtain ⟨ns, z1, z2⟩ := sum_ints e h2
      have h' : some (c + c2) = some i := h
      exact ⟨c :: ns, by rw [int_of h1, z1]; rfl, by rw [List.sum_cons, z2]; exact Option.some.inj h'⟩
theorem v_sum : Val1 b oSum fun v H Q => rSum X.K [v] H Q := fun F G S σ H d v z Q h r hv k => by
  cases d <;> first | (cases h; done) | skip
  rename_i l
  obtain ⟨p, vs, rfl, q1, q2⟩ := lst_of hv
  have h' : oi (sumI l) = some z := h
  cases e : sumI l with
  | none =>
    rw [e] at h'
    cases h'
  | some c =>
    rw [e] at h'
    have h2 : oint c = some z := h'
    rw [oint_eq] at h2
    obtain rfl := Option.some.inj h2
    obtain ⟨ns, rfl, z2⟩ := sum_ints e q2
    refine ⟨p, ns, rfl, SqL.of (r.base.sameF _ _ q1), ?_⟩
    rw [z2]
    exact k.now r Rep.int'
end
end Tee
set_option maxRecDepth 100000
set_option maxHeartbeats 4000000
/-! sorted. -/
namespace Tee
open PySem PySem.Spec PyProof.Rows L2
open SrtO (Swo Srtd Stb SortableO)
section
variable {prog : Program} {w : World} {A : Around} {E : Value → Shared → Prop} {s : Shared}
/-- sorted of what can be gathered -/
theorem sorted_coll {x : Value} {Q : Value → Shared → Prop}
    (hc : wpAny (model prog w) A.in1 (collect x) (fun vs s1 => ∃ ltv : Value → Value → Bool, Swo ltv ∧ vs.length ≤ sizeLine ∧ (2 ≤ vs.length → SortableO prog w A.in1.in1 { s1 with heap := s1.heap.push (seqObj "list" vs.toArray 0) } s1.heap.objs.size vs ltv) ∧
      ∀ (out : List Value) (h' : Heap), Srtd ltv out → Stb ltv out vs → (∀ b o, s1.heap.get? b = some o → h'.get? b = some o) → (∃ n, h'.get? s1.heap.objs.size = some (seqObj "list" out.toArray n)) → Q (.ref s1.heap.objs.size) { s1 with heap := h' }) E s) :
    wpAny (model prog w) A (call (.builtin "sorted") [x]) Q E s := by
  refine Calls.call_function_entry kind_sorted plain_sorted entry_sorted (args_sorted1 _) ?_
  unfold Builtin.«sorted»
  refine wpAny_bind (m := checkCount "sorted" 1 1 _) (wpAny_pure ?_)
  refine wpAny_bind (wpAny_mono hc (fun vs s1 ⟨ltv, O, hz, hS, h⟩ => ?_) fun _ _ e => e)
  refine wpAny_bind (wpAny_newList ?_ hz)
  have at1 : (s1.heap.push (seqObj "list" vs.toArray 0)).get? s1.heap.objs.size = some (seqObj "list" vs.toArray 0) := Heap.get?_push_size _ rfl
  refine wpAny_bind (wpAny_holding (wpAny_call_entry slot_list_sort ⟨_, at1, rfl⟩ entry_list_sort (SrtO.list_sort_ord O at1 hz hS fun out hs hb => ⟨_, rfl, ?_⟩) (args_list_sort _)))
  refine wpAny_pure ⟨_, rfl, h out _ hs hb (fun b o e => ?_) (sortedHeap_at at1)⟩
  have hlt := Heap.lt_size e
  rw [sortedHeap_old (Nat.ne_of_lt hlt) (by rw [size_push']; exact Nat.lt_succ_of_lt hlt)]
  exact Heap.get?_push_of_some _ e
end
section
variable {X : Cx} {b : Bd} {F H : Hp}
theorem full_ref {d : D} {v : V} (h : full d = true) (r : Rep b F d v) : ∃ a, v = V.ref a := by
  cases d <;> first | (cases h; done) | skip
  rw [Rep] at r
  obtain ⟨a, _, e, _⟩ := r
  exact ⟨a, e⟩
theorem sortT_of {t : Ty} {l zs : List D} (h : sortT t l = some zs) : (∀ d ∈ l, hasTy t d = true ∧ full d = true) ∧ sortD l = some zs := by
  unfold sortT at h
  split at h
  · rename_i ha
    refine ⟨fun d hd => ?_, h⟩
    have := List.all_eq_true.mp ha d hd
    rwa [Bool.and_eq_true] at this
  · cases h
theorem repL_refs : ∀ {l : List D} {vs : List V}, (∀ d ∈ l, full d = true) → RepL b F l vs → ∀ v ∈ vs, ∃ a, v = V.ref a
  | [], vs, _, r, v, hv => by
    rw [r.unnil] at hv
    cases hv
  | d :: l, vs, h, r, v, hv => by
    obtain ⟨x, t, rfl, h1, h2⟩ := r.uncons
    rcases List.mem_cons.mp hv with rfl | hv
    · exact full_ref (h d List.mem_cons_self) h1
    · exact repL_refs (fun e he => h e (List.mem_cons_of_mem _ he)) h2 v hv
theorem repL_zip : ∀ {l : List D} {vs : List V} {us : List Value}, RepL b F l vs → Vals vs us → (∀ v ∈ vs, ∃ a, v = V.ref a) → ∀ p ∈ l.zip us, Rep b F p.1 (backV p.2)
  | [], _, _, _, _, _, p, hp => by simp at hp
  | d :: l, vs, us, r, rv, hr, p, hp => by
    obtain ⟨x, t, rfl, h1, h2⟩ := r.uncons
    cases rv with
    | cons r1 r2 =>
      rename_i u us'
      rw [List.zip_cons_cons] at hp
      rcases List.mem_cons.mp hp with rfl | hp
      · obtain ⟨a, rfl⟩ := hr x List.mem_cons_self
        cases r1
        exact h1
      · exact repL_zip h2 r2 (fun v hv => hr v (List.mem_cons_of_mem _ hv)) p hp
theorem repL_of_pairs : ∀ {P : List (D × Value)}, (∀ p ∈ P, Rep b F p.1 (backV p.2)) → RepL b F (P.map (·.1)) ((P.map (·.2)).map backV)
  | [], _ => RepL.nil'
  | p :: P, h => RepL.cons' (h p List.mem_cons_self) (repL_of_pairs fun q hq => h q (List.mem_cons_of_mem _ hq))
/-- the end of a sort of trees: what is gathered, of trees -/
theorem sorted_end (ok : Okb b X) {pins : List (Addr × Obj)} {σ : Sg} {s1 : Shared} {Q : VK} {t : Ty} {l zs : List D} {vs : List V} {us : List Value} (ht : headOk t = true) (hd : dpt t ≤ 8) (I1 : Inv X pins σ H s1) (sm : Same F H) (hl : RepL b F l vs) (rv : Vals vs us) (hs : sortT t l = some zs)
    (hz : us.length ≤ sizeLine) (q : ∀ ys p, RepL b F zs ys → H p = none → Q (.ref p) (upd H p (.lst ys))) :
    us.length ≤ sizeLine ∧ (2 ≤ us.length → SortableO X.prog X.w X.A.in1.in1 { s1 with heap := s1.heap.push (seqObj "list" us.toArray 0) } s1.heap.objs.size us (fun v u => ltT 8 (dec s1.heap t v) (dec s1.heap t u))) ∧
      ∀ (out : List Value) (h' : Heap), Srtd (fun v u => ltT 8 (dec s1.heap t v) (dec s1.heap t u)) out → Stb (fun v u => ltT 8 (dec s1.heap t v) (dec s1.heap t u)) out us → (∀ b o, s1.heap.get? b = some o → h'.get? b = some o) → (∃ n, h'.get? s1.heap.objs.size = some (seqObj "list" out.toArray n)) →
        EP X pins σ Q (.ref s1.heap.objs.size) { s1 with heap := h' } := by
  obtain ⟨hty, hsd⟩ := sortT_of hs
  have ha : AtL s1.heap l us := repL_at ok I1 sm l hl rv
  have hrefs := repL_refs (fun d hd => (hty d hd).2) hl
  have un := ok.un
  refine ⟨hz, fun h2 => ?_, fun out h' h1 h2 keep ⟨n, hn⟩ => ?_⟩
  · have kp : ∀ a o, s1.heap.get? a = some o → o.cls = .type "tuple" → (s1.heap.push (seqObj "list" us.toArray 0)).get? a = some o := fun a o e _ => Heap.get?_push_of_some _ e
    refine sortable_tree (s := { s1 with heap := s1.heap.push (seqObj "list" us.toArray 0) }) (t := t) ht hd (by rw [in1_units, in1_units]; omega) (by omega) (AtL.keep kp l ha) hty (fun o e c => ?_) fun d e u v mu mv md me ad ae => ?_
    · have at1 : (s1.heap.push (seqObj "list" us.toArray 0)).get? s1.heap.objs.size = some (seqObj "list" us.toArray 0) := Heap.get?_push_size _ rfl
      have e' : some o = some (seqObj "list" us.toArray 0) := e.symm.trans at1
      cases e'
      exact absurd (Value.type.inj c) (by decide)
    · have back : ∀ d u, d ∈ l → u ∈ us → At (s1.heap.push (seqObj "list" us.toArray 0)) d u → dec s1.heap t u = d := fun d u md mu ad => by
        obtain ⟨d0, m0, a0⟩ := ha.mem u mu
        have e := at_inj t d d0 u (hty d md).1 (hty d0 m0).1 ad (At.keep kp d0 a0)
        rw [e]
        exact dec_eq (hty d0 m0).1 a0
      show ltT 8 (dec s1.heap t u) (dec s1.heap t v) = ltT 8 d e
      rw [back d u md mu ad, back e v me mv ae]
  · obtain ⟨zs', z1, P, z2, z3, z4⟩ := sorted_pairs hd ha (fun d hd => (hty d hd).1) h1 h2
    rw [hsd] at z1
    obtain rfl := Option.some.inj z1
    have hp : ∀ p ∈ P, Rep b F p.1 (backV p.2) := fun p hp => repL_zip hl rv hrefs p (z2.mem_iff.mp hp)
    have hr := repL_of_pairs hp
    rw [← z3, ← z4] at hr
    obtain ⟨_, e2⟩ := refs_back rv hrefs
    have h3 : ∀ u ∈ out, ∃ a, u = Value.ref a := fun u hu => e2 u (h2.perm.mem_iff.mp hu)
    have fr := I1.hok.fresh (Nat.le_refl s1.heap.objs.size)
    refine ⟨.ref s1.heap.objs.size, upd H s1.heap.objs.size (.lst (out.map backV)), I1.laid (t' := s1.toks) keep (Nat.le_refl _) ⟨?_, out, n, vals_back h3, hn⟩, rfl, q _ _ hr fr⟩
    rw [List.length_map, h2.perm.length_eq]
    exact hz
def rSortX (b : Bd) (K : PySem.W.Frag) (t : Ty) : List V → Hp → VK → Prop := fun xs H Q => ∃ F l p vs zs, Same F H ∧ xs = [.ref p] ∧ (SqT K H p vs ∨ SqL K H p vs) ∧ RepL b F l vs ∧ sortT t l = some zs ∧ ∀ ys p, RepL b F zs ys → H p = none → Q (.ref p) (upd H p (.lst ys))
theorem cr_sortX {t : Ty} (ok : Okb b X) (ht : headOk t = true) (hd : dpt t ≤ 8) : CallR X (.builtin "sorted") (rSortX b X.K t) := by
  intro pins s σ H xs us Q I r ⟨F, l, p, vs, zs, sm, e, hp, hl, hs, q⟩
  subst e
  obtain ⟨u, rfl, ru⟩ := vals1 r
  obtain rfl : u = Value.ref p := ru
  have go : ∀ (its : List Value) (T : String) (o : Obj) (n : Nat), T = "list" ∨ T = "tuple" → s.heap.get? p = some o → o.cls = .type T → o.data = .seq its.toArray n → Vals vs its → its.length ≤ sizeLine → wpAny (model X.prog X.w) X.A (call (.builtin "sorted") [.ref p]) (EP X pins σ Q) X.xe s := by
    intro its T o n hT ho hc hD rv hz
    refine sorted_coll (wpAny_collect_seq (A := X.A.in1) p hT ho hc hD (fun h' hk => ?_) (by rw [List.size_toArray]; exact hz))
    have I1 : Inv X pins σ H { s with heap := h' } := I.kept (t' := s.toks) hk
    have eL : its.toArray.toList = its := by simp
    rw [eL]
    exact ⟨fun v u => ltT 8 (dec h' t v) (dec h' t u), ⟨fun x y => (ltT_swo 8).asym _ _, fun x y z => (ltT_swo 8).tr _ _ _⟩, sorted_end ok (s1 := { s with heap := h' }) ht hd I1 sm hl rv hs hz q⟩
  rcases hp with hp | hp
  · obtain ⟨its, rv, ⟨o, ho, hc, n, hD⟩, hz⟩ := I.tuple hp
    exact go its "tuple" o n (.inr rfl) ho hc hD rv (by rw [← rv.length]; exact hz)
  · obtain ⟨its, rv, ⟨o, n, ho, hc, _, hD⟩, hz⟩ := I.list hp
    exact go its "list" o n (.inl rfl) ho hc hD rv (by rw [← rv.length]; exact hz)
theorem v_sorted (t : Ty) (ok : Okb b X) : Val1 b (oSorted t) fun v H Q => rSortX b X.K t [v] H Q := fun F G S σ H d v z Q h r hv k => by
  cases d <;> first | (cases h; done) | skip
  · rename_i l
    cases hs : sortT t l with
    | none =>
      unfold oSorted at h
      simp only [hs] at h
      cases h
    | some zs =>
      unfold oSorted at h
      simp only [hs] at h
      cases h
      obtain ⟨p, vs, rfl, q1, q2⟩ := tup_of hv
      exact ⟨F, l, p, vs, zs, r.base.sameF, rfl, .inl (ok.K ▸ sqT_up r.base.sameF q1), q2, hs, fun ys p hy hp => k.lst r hp hy⟩
  · rename_i l
    cases hs : sortT t l with
    | none =>
      unfold oSorted at h
      simp only [hs] at h
      cases h
    | some zs =>
      unfold oSorted at h
      simp only [hs] at h
      cases h
      obtain ⟨p, vs, rfl, q1, q2⟩ := lst_of hv
      exact ⟨F, l, p, vs, zs, r.base.sameF, rfl, .inr (SqL.of (r.base.sameF _ _ q1)), q2, hs, fun ys p hy hp => k.lst r hp hy⟩
end
end Tee
set_option maxRecDepth 100000
set_option maxHeartbeats 4000000
/-! isinstance, min, max. -/
namespace Tee
open PySem PySem.Spec PyProof.Rows L2
section
variable {X : Cx} {b : Bd} {F H : Hp} {G : Gh} {S : Ss} {σ : Sg}
/-! ### isinstance -/
def tyD : D → Option String
  | .non => some "NoneType"
  | .bl _ => some "bool"
  | .int _ => some "int"
  | .sym _ => some "str"
  | .tup _ => some "tuple"
  | .lst _ => some "list"
  | _ => none
theorem tyx_of (ok : Okb b X) (r : Rel b F G S σ H) {d : D} {v : V} {n : String} (hv : Rep b F d v) (h : tyD d = some n) : TyX X.K H v (.type n) := by
  cases d <;> first | (cases h; done) | skip
  · cases h
    rw [Rep] at hv
    subst hv
    exact .base .non
  · cases h
    rw [bl_of hv]
    exact .base (.bl _)
  · cases h
    rw [int_of hv]
    exact .base (.int _)
  · cases h
    rw [Rep] at hv
    subst hv
    exact .base (.str _)
  · cases h
    obtain ⟨p, vs, rfl, q1, q2⟩ := tup_of hv
    have q3 : SqT X.K H p vs := ok.K ▸ sqT_up r.base.sameF q1
    rcases q3 with (q3 | ⟨o, q3⟩) | ⟨o, its, m, k1, k2, k3⟩
    · exact .base (.tup q3)
    · exact .fTuple q3
    · exact .kTuple k1 k2
  · cases h
    obtain ⟨p, vs, rfl, q1, q2⟩ := lst_of hv
    exact .base (.lst (r.base.sameF _ _ q1))
def IsiOk (f : D → Option D) (c : String) : Prop := ∀ d z, f d = some z → ∃ n r, tyD d = some n ∧ kitB n c = some r ∧ z = .bl r
theorem isi_int : IsiOk oIsInt "int" := fun d z h => by
  cases d <;> (cases h; try exact ⟨_, _, rfl, by decide +kernel, rfl⟩)
theorem isi_bool : IsiOk oIsBool "bool" := fun d z h => by
  cases d <;> (cases h; try exact ⟨_, _, rfl, by decide +kernel, rfl⟩)
theorem isi_tup : IsiOk oIsTup "tuple" := fun d z h => by
  cases d <;> (cases h; try exact ⟨_, _, rfl, by decide +kernel, rfl⟩)
theorem isi_list : IsiOk oIsList "list" := fun d z h => by
  cases d <;> (cases h; try exact ⟨_, _, rfl, by decide +kernel, rfl⟩)
variable {a : Expr} {ma : M} {p p2 pos tpos : Pos}
theorem r_isi {f : D → Option D} {c : String} {x : PySem.Str} (ok : Okb b X) (hf : IsiOk f c) (hg : Gl X "isinstance") (hm : X.mg "isinstance" = none) (hgc : Gl X x) (hmc : X.mg x = none) (hvc : bootBuiltins x = some (.type c)) (hn : x ≠ "__name__") (hd : (x == ("__debug__" : PySem.Str)) = false)
    (ha : PE X a (tE b ma)) (h1 : starEach [a, .Name x p2] X.env = (false, eval a X.env) :: starEach [.Name x p2] X.env) (h2 : starEach [.Name x p2] X.env = (false, eval (.Name x p2) X.env) :: starEach [] X.env) (h3 : (backTo pos (starEach [.Name x p2] X.env)).any (·.1) = false) :
    PE X (.Call (.Name "isinstance" p) [a, .Name x p2] [] pos) (tE b (e1 f ma)) := by
  have hc : PE X (.Name x p2) (tC (.ty c)) := pe_bltn hgc hmc hvc rfl hn hd
  refine (pe_callB call_isi hg hm boot_isinstance (pa_cons ha (pa_cons hc pa_nil h2) h1) (by decide) (by decide) h1 h3).weak fun σ H Q q => ?_
  refine e1_w (r := fun v H Q => rIsi X.K [v, .ty c] H Q) (fun F G S σ H d v z Q h r hv k => ?_) q
  obtain ⟨n, w, e1, e2, rfl⟩ := hf d z h
  exact ⟨v, .ty c, .type n, .type c, w, rfl, .ty c, tyx_of ok r hv e1, kit_ty e2, k.now r Rep.bl'⟩
def IsiOk2 (f : D → Option D) (c c' : String) : Prop := ∀ d z, f d = some z → ∃ n r r', tyD d = some n ∧ kitB n c = some r ∧ kitB n c' = some r' ∧ z = .bl (r || r')
theorem isi_lt : IsiOk2 oIsLT "list" "tuple" := fun d z h => by
  cases d <;> (cases h; try first | exact ⟨_, false, false, rfl, by decide +kernel, by decide +kernel, rfl⟩ | exact ⟨_, true, false, rfl, by decide +kernel, by decide +kernel, rfl⟩ | exact ⟨_, false, true, rfl, by decide +kernel, by decide +kernel, rfl⟩)
theorem isi_bs : IsiOk2 oIsBS "bool" "str" := fun d z h => by
  cases d <;> (cases h; try first | exact ⟨_, false, false, rfl, by decide +kernel, by decide +kernel, rfl⟩ | exact ⟨_, true, false, rfl, by decide +kernel, by decide +kernel, rfl⟩ | exact ⟨_, false, true, rfl, by decide +kernel, by decide +kernel, rfl⟩)
theorem kit_two {K : PySem.W.Frag} {n c c' : String} {r r' : Bool} (h : kitB n c = some r) (h' : kitB n c' = some r') : PySem.W.kitAny K (.type n) [.type c, .type c'] = some (r || r') := by
  refine kitAny_cons (kit_ty h) (fun e => ?_) (fun e => by rw [e]; rfl)
  rw [e, Bool.false_or]
  refine kitAny_cons (kit_ty h') (fun e => ?_) (fun e => e)
  rw [e]
  exact kitAny_nil
theorem r_isi2 {f : D → Option D} {c c' : String} {x x' : PySem.Str} {n : Nat} {p3 : Pos} (ok : Okb b X) (hf : IsiOk2 f c c') (hg : Gl X "isinstance") (hm : X.mg "isinstance" = none) (hc : PE X (.Name x p2) (tC (.ty c))) (hc' : PE X (.Name x' p3) (tC (.ty c')))
    (ha : PE X a (tE b ma)) (h1 : starEach [a, .Tuple [.Name x p2, .Name x' p3] n tpos] X.env = (false, eval a X.env) :: starEach [.Tuple [.Name x p2, .Name x' p3] n tpos] X.env)
    (h2 : starEach [.Tuple [.Name x p2, .Name x' p3] n tpos] X.env = (false, eval (.Tuple [.Name x p2, .Name x' p3] n tpos) X.env) :: starEach [] X.env) (h3 : (backTo pos (starEach [.Tuple [.Name x p2, .Name x' p3] n tpos] X.env)).any (·.1) = false)
    (h4 : starEach [.Name x p2, .Name x' p3] X.env = (false, eval (.Name x p2) X.env) :: starEach [.Name x' p3] X.env) (h5 : starEach [.Name x' p3] X.env = (false, eval (.Name x' p3) X.env) :: starEach [] X.env) :
    PE X (.Call (.Name "isinstance" p) [a, .Tuple [.Name x p2, .Name x' p3] n tpos] [] pos) (tE b (e1 f ma)) := by
  refine (pe_callB call_isiT hg hm boot_isinstance (pa_cons ha (pa_cons (pe_tup (pa_cons hc (pa_cons hc' pa_nil h5) h4)) pa_nil h2) h1) (by decide) (by decide) h1 h3).weak fun σ H Q q => ?_
  refine e1_w (r := fun v H Q => 2 ≤ sizeLine ∧ ∀ t, H t = none → rIsiT X.K [v, .ref t] (upd H t (.tup [.ty c, .ty c'])) Q) (fun F G S σ H d v z Q h r hv k => ⟨by decide, fun t ht => ?_⟩) q
  obtain ⟨m, w, w', e1, e2, e3, rfl⟩ := hf d z h
  have r2 : Rel b F G S σ (upd H t (.tup [.ty c, .ty c'])) := r.grow (fun _ _ e => e) (same_upd' ht) (r.base.sameF.trans (same_upd' ht)) fun _ q => .inl q
  exact ⟨v, t, _, .type m, [.type c, .type c'], w || w', rfl, upd_same, .cons (.ty c) (.cons (.ty c') .nil), tyx_of ok r2 hv e1, kit_two e2 e3, k.now r2 Rep.bl'⟩
end
/-! ### min, max of two -/
section
variable {prog : Program} {w : World} {A : Around} {E : Value → Shared → Prop} {s : Shared}
theorem two_at {h : Heap} {u v : Value} : (h.push { cls := .type "tuple", data := .seq #[u, v] }).IsTuple h.objs.size #[u, v] := ⟨_, Heap.get?_push_size _ rfl, rfl, 0, rfl⟩
theorem best_two {bt : Nat → Nat → Bool} {u v x : Value} (h : #[u, v][argBest bt (#[u, v].size - 1)]? = some x) : x = if bt 1 0 = true then v else u := by
  have e : argBest bt (#[u, v].size - 1) = if bt 1 0 = true then 1 else 0 := rfl
  rw [e] at h
  by_cases hb : bt 1 0 = true
  · rw [if_pos hb] at h ⊢
    exact (Option.some.inj h).symm
  · rw [if_neg hb] at h ⊢
    exact (Option.some.inj h).symm
open PySem.W in
theorem min_two_data {u v : Value} {x y : PyData} {as : List Addr} {Q : Value → Shared → Prop} (hh : A.handled = none) (hr : ReadsAll s.heap [u, v] [x, y] as) (ha : AlikeAll [x, y]) (hu : A.units + 2 + PyData.depthAll [x, y] < cLine)
    (h : ∀ h' tk, (∀ c o, s.heap.get? c = some o → h'.get? c = some o) → Q (if dataLt y x = true then v else u) { s with heap := h', toks := tk }) : wpAny (model prog w) A (call (.builtin "min") [u, v]) Q E s := by
  have nm : (toString "min" ++ toString ".loop" : String) = "min.loop" := by decide
  refine call_function_tree F.kind_min F.plain_min F.entry_min (F.args_min2 u v) ?_
  refine wpAny_bind (m := Builtin.Builtins.bindParams "min" ["key", "default"] 0 ⟨[], []⟩) (wpAny_of_eq (t := pure [none, none]) rfl ?_)
  refine wpAny_bind (m := newTuple [u, v]) (wpAny_newObj_type ?_)
  refine wpAny_bind (iter_tupleW (A := A.in1) hh two_at fun s2 e W st hfp hw hk => wpAny_bind (wpAny_newObj_type ?_))
  rw [nm]
  have k0 : ∀ c o, s.heap.get? c = some o → s2.heap.get? c = some o := fun c o q => hk c o (Heap.get?_push_of_some _ q)
  have w0 : ∀ c o, s.heap.get? c = some o → c ∉ [(s.heap.push { cls := .type "tuple", data := .seq #[u, v] }).objs.size] := fun c o q => hw c o (Heap.get?_push_of_some _ q)
  have cmp := cmpIn_lt (prog := prog) (w := w) (A := A.in1) (s := s) (vs := #[u, v]) hr ha (by rw [in1_units]; omega)
  refine wpAny_pure ⟨plainId_quiet F.plain_min_loop _, codeAny_min_loop_firstH W s.heap w0 _ cmp s2.heap.objs.size (fun hm => Nat.lt_irrefl _ (hfp _ hm)) (fresh_in k0) _ (by simp) (fun c o q => Heap.get?_push_of_some _ (k0 c o q))
    (W.frame 0 s2 _ s2.toks st (Nat.le_refl _) fun c _ o q => Heap.get?_push_of_some _ q) (Heap.get?_push_size _ rfl) fun x' s' hP hm => ?_⟩
  obtain ⟨h', tk, rfl, hk'⟩ := moved_old e rfl (Moved.drop_new (tk := s2.toks) hm (Nat.le_refl _))
  rw [best_two hP]
  exact h h' tk fun c o q => hk' c o (Heap.get?_push_of_some _ q)
open PySem.W in
theorem max_two_data {u v : Value} {x y : PyData} {as : List Addr} {Q : Value → Shared → Prop} (hh : A.handled = none) (hr : ReadsAll s.heap [u, v] [x, y] as) (ha : AlikeAll [x, y]) (hu : A.units + 2 + PyData.depthAll [x, y] < cLine)
    (h : ∀ h' tk, (∀ c o, s.heap.get? c = some o → h'.get? c = some o) → Q (if dataLt x y = true then v else u) { s with heap := h', toks := tk }) : wpAny (model prog w) A (call (.builtin "max") [u, v]) Q E s := by
  have nm : (toString "max" ++ toString ".loop" : String) = "max.loop" := by decide
  refine call_function_tree F.kind_max F.plain_max F.entry_max (F.args_max2 u v) ?_
  refine wpAny_bind (m := Builtin.Builtins.bindParams "max" ["key", "default"] 0 ⟨[], []⟩) (wpAny_of_eq (t := pure [none, none]) rfl ?_)
  refine wpAny_bind (m := newTuple [u, v]) (wpAny_newObj_type ?_)
  refine wpAny_bind (iter_tupleW (A := A.in1) hh two_at fun s2 e W st hfp hw hk => wpAny_bind (wpAny_newObj_type ?_))
  rw [nm]
  have k0 : ∀ c o, s.heap.get? c = some o → s2.heap.get? c = some o := fun c o q => hk c o (Heap.get?_push_of_some _ q)
  have w0 : ∀ c o, s.heap.get? c = some o → c ∉ [(s.heap.push { cls := .type "tuple", data := .seq #[u, v] }).objs.size] := fun c o q => hw c o (Heap.get?_push_of_some _ q)
  have cmp := cmpIn_gt (prog := prog) (w := w) (A := A.in1) (s := s) (vs := #[u, v]) hr ha (by rw [in1_units]; omega)
  refine wpAny_pure ⟨plainId_quiet F.plain_max_loop _, codeAny_max_loop_firstH W s.heap w0 _ cmp s2.heap.objs.size (fun hm => Nat.lt_irrefl _ (hfp _ hm)) (fresh_in k0) _ (by simp) (fun c o q => Heap.get?_push_of_some _ (k0 c o q))
    (W.frame 0 s2 _ s2.toks st (Nat.le_refl _) fun c _ o q => Heap.get?_push_of_some _ q) (Heap.get?_push_size _ rfl) fun x' s' hP hm => ?_⟩
  obtain ⟨h', tk, rfl, hk'⟩ := moved_old e rfl (Moved.drop_new (tk := s2.toks) hm (Nat.le_refl _))
  rw [best_two hP]
  exact h h' tk fun c o q => hk' c o (Heap.get?_push_of_some _ q)
end
section
variable {X : Cx} {b : Bd} {F H : Hp}
abbrev pyP (i j : Int) : PyData := .tuple [.int i, .int j]
theorem dp_pair (ok : Okb b X) {G : Gh} {S : Ss} {σ : Sg} (r : Rel b F G S σ H) {i j : Int} {v : V} (h : Rep b F (.tup [.int i, .int j]) v) : Dp X.K H v (pyP i j) := by
  obtain ⟨p, vs, rfl, q1, q2⟩ := tup_of h
  obtain ⟨v1, t, rfl, h1, h2⟩ := q2.uncons
  obtain ⟨v2, t2, rfl, h3, h4⟩ := h2.uncons
  rw [h4.unnil, int_of h1, int_of h3] at q1
  exact .tup (ok.K ▸ sqT_up r.base.sameF q1) (.cons (.int i) (.cons (.int j) .nil))
theorem alike_pp (i j k l : Int) : PySem.W.AlikeAll [pyP i j, pyP k l] := by
  refine ⟨fun x hx y hy => ?_, fun x hx => ?_⟩
  · simp only [List.mem_cons, List.not_mem_nil, or_false] at hx hy
    rcases hx with rfl | rfl <;> rcases hy with rfl | rfl <;> rfl
  · simp only [List.mem_cons, List.not_mem_nil, or_false] at hx
    rcases hx with rfl | rfl <;> exact fun z => nomatch z
theorem ltPr_eq (a c d e : Int) : PySem.W.dataLt (pyP a c) (pyP d e) = ltPr a c d e := by
  rw [PySem.W.dataLt_ii]
  unfold ltPr
  rw [ilt_iff, ieq_iff, ilt_iff]
  by_cases h1 : a < d
  · simp [h1]
  · by_cases h2 : a = d
    · simp [h1, h2]
    · simp [h1, h2]
def rMinP (K : PySem.W.Frag) : List V → Hp → VK → Prop := fun xs H Q => ∃ v u i j k l, xs = [v, u] ∧ Dp K H v (pyP i j) ∧ Dp K H u (pyP k l) ∧ Q (if ltPr k l i j = true then u else v) H
def rMaxP (K : PySem.W.Frag) : List V → Hp → VK → Prop := fun xs H Q => ∃ v u i j k l, xs = [v, u] ∧ Dp K H v (pyP i j) ∧ Dp K H u (pyP k l) ∧ Q (if ltPr i j k l = true then u else v) H
theorem cr_minP (ok : Okb b X) : CallR X (.builtin "min") (rMinP X.K) := by
  intro pins s σ H xs us Q I r ⟨v, u, i, j, k, l, e, h1, h2, q⟩
  subst e
  obtain ⟨x, y, rfl, rx, ry⟩ := vals2 r
  obtain ⟨as, a1⟩ := Dp.reads I _ _ _ h1 rx
  obtain ⟨bs, a2⟩ := Dp.reads I _ _ _ h2 ry
  have un := ok.un
  have d2 : PyData.depthAll [pyP i j, pyP k l] ≤ 8 := by simp [PyData.depthAll, PyData.depth]
  refine min_two_data (I.ok.hd ok.calm) (.cons a1 (.cons a2 .nil)) (alike_pp i j k l) (by omega) fun h' tk hk => ?_
  rw [ltPr_eq]
  refine ⟨_, H, I.kept hk, ?_, q⟩
  by_cases c : ltPr k l i j = true
  · rw [if_pos c, if_pos c]
    exact ry
  · rw [if_neg c, if_neg c]
    exact rx
theorem cr_maxP (ok : Okb b X) : CallR X (.builtin "max") (rMaxP X.K) := by
  intro pins s σ H xs us Q I r ⟨v, u, i, j, k, l, e, h1, h2, q⟩
  subst e
  obtain ⟨x, y, rfl, rx, ry⟩ := vals2 r
  obtain ⟨as, a1⟩ := Dp.reads I _ _ _ h1 rx
  obtain ⟨bs, a2⟩ := Dp.reads I _ _ _ h2 ry
  have un := ok.un
  have d2 : PyData.depthAll [pyP i j, pyP k l] ≤ 8 := by simp [PyData.depthAll, PyData.depth]
  refine max_two_data (I.ok.hd ok.calm) (.cons a1 (.cons a2 .nil)) (alike_pp i j k l) (by omega) fun h' tk hk => ?_
  rw [ltPr_eq]
  refine ⟨_, H, I.kept hk, ?_, q⟩
  by_cases c : ltPr i j k l = true
  · rw [if_pos c, if_pos c]
    exact ry
  · rw [if_neg c, if_neg c]
    exact rx
theorem v_min2 (ok : Okb b X) : Val2 b oMin2 fun v u H Q => rMinP X.K [v, u] H Q := fun F G S σ H d e v u z Q h r hv hu kk => by
  unfold oMin2 at h
  split at h
  · rename_i i j k l
    refine ⟨v, u, i, j, k, l, rfl, dp_pair ok r hv, dp_pair ok r hu, ?_⟩
    split at h
    · rename_i c
      cases h
      rw [if_pos c]
      exact kk.now r hu
    · rename_i c
      cases h
      rw [if_neg (by rw [c]; decide)]
      exact kk.now r hv
  · cases h
theorem v_max2 (ok : Okb b X) : Val2 b oMax2 fun v u H Q => rMaxP X.K [v, u] H Q := fun F G S σ H d e v u z Q h r hv hu kk => by
  unfold oMax2 at h
  split at h
  · rename_i i j k l
    refine ⟨v, u, i, j, k, l, rfl, dp_pair ok r hv, dp_pair ok r hu, ?_⟩
    split at h
    · rename_i c
      cases h
      rw [if_pos c]
      exact kk.now r hu
    · rename_i c
      cases h
      rw [if_neg (by rw [c]; decide)]
      exact kk.now r hv
  · cases h
/-- min of a pair -/
def rMinT2 (K : PySem.W.Frag) : List V → Hp → VK → Prop := fun xs H Q => ∃ p i j, xs = [.ref p] ∧ SqT K H p [.int i, .int j] ∧ Q (.int (if j < i then j else i)) H
theorem cr_minT2 (ok : Okb b X) : CallR X (.builtin "min") (rMinT2 X.K) := by
  intro pins s σ H xs us Q I r ⟨p, i, j, e, h1, q⟩
  subst e
  obtain ⟨x, rfl, rx⟩ := vals1 r
  obtain rfl : x = Value.ref p := rx
  obtain ⟨its, rv, tp, _⟩ := I.tuple h1
  obtain ⟨x, y, rfl, ⟨t, rfl⟩, ⟨t', rfl⟩⟩ := vals2 rv
  have un := ok.un
  have rd : ReadsAll s.heap [.int i t, .int j t'] [.int i, .int j] ([] ++ ([] ++ [])) := .cons (.int i t) (.cons (.int j t') .nil)
  have al : PySem.W.AlikeAll [.int i, .int j] := by
    refine ⟨fun x hx y hy => ?_, fun x hx => ?_⟩
    · simp only [List.mem_cons, List.not_mem_nil, or_false] at hx hy
      rcases hx with rfl | rfl <;> rcases hy with rfl | rfl <;> rfl
    · simp only [List.mem_cons, List.not_mem_nil, or_false] at hx
      rcases hx with rfl | rfl <;> exact fun z => nomatch z
  refine PySem.W.min_tuple_data (I.ok.hd ok.calm) tp rd al (by show X.A.units + 1 + PyData.depthAll [.int i, .int j] < cLine; simp [PyData.depthAll, PyData.depth]; omega) fun n v h' tk bs hi hr hk => ?_
  have e2 := PySem.W.minD_ints i [j]
  have e3 : min i j = if j < i then j else i := by
    rcases Int.lt_or_le j i with c | c
    · rw [if_pos c]
      omega
    · rw [if_neg (by omega)]
      omega
  have e4 : PySem.W.minD (.int i) [.int j] = .int (if j < i then j else i) := by
    rw [← e3]
    exact e2
  rw [e4] at hr
  cases hr
  exact ⟨.int _, H, I.kept hk, ⟨_, rfl⟩, q⟩
theorem v_minT (ok : Okb b X) : Val1 b oMinT fun v H Q => rMinT2 X.K [v] H Q := fun F G S σ H d v z Q h r hv k => by
  unfold oMinT at h
  split at h
  · rename_i i j
    obtain ⟨p, vs, rfl, q1, q2⟩ := tup_of hv
    obtain ⟨v1, t, rfl, h1, h2⟩ := q2.uncons
    obtain ⟨v2, t2, rfl, h3, h4⟩ := h2.uncons
    rw [h4.unnil, int_of h1, int_of h3] at q1
    refine ⟨p, i, j, rfl, ok.K ▸ sqT_up r.base.sameF q1, ?_⟩
    split at h
    · rename_i c
      rw [ilt_iff] at c
      cases h
      rw [if_pos (of_decide_eq_true c)]
      exact k.now r Rep.int'
    · rename_i c
      rw [ilt_iff] at c
      cases h
      rw [if_neg (of_decide_eq_false c)]
      exact k.now r Rep.int'
  · cases h
end
end Tee
set_option maxRecDepth 100000
set_option maxHeartbeats 4000000
/-! *, dict displays, sums of values, get. -/
namespace Tee
open PySem PySem.Spec PyProof.Rows L2
/-! ### tuple * 1, tuple * 0 -/
theorem tup_mul1 (l : Addr) (items : Array Value) (n : Nat) (dd : Option Addr) (sl : Array (Option Value)) (u : Tok) :
    Meets (Builtin.«tuple.__mul__» ⟨[.ref l, .int 1 u], []⟩) (fun _ R s => s.heap.get? l = some { cls := .type "tuple", dict := dd, data := .seq items n, slots := sl } ∧ R (.ok (.ret (Value.ref l))) s) :=
  .of_wp fun prog w A R s h => by
    obtain ⟨hp, g, d, tk, os⟩ := s
    obtain ⟨hl, h⟩ := h
    have f1 := AutoSeq1.idx_int
    wp_walk using wpAny_loadPart' hl
    repeat (first
      | (refine wpAny_ite_false (by decide) ?_; wp_walk using wpAny_loadPart' hl)
      | (refine wpAny_ite_true (by simp) ?_; wp_walk using wpAny_loadPart' hl))
    exact ⟨_, rfl, h⟩
theorem tup_mul0 (l : Addr) (items : Array Value) (n : Nat) (dd : Option Addr) (sl : Array (Option Value)) (u : Tok) (hi : items.isEmpty = false) :
    Meets (Builtin.«tuple.__mul__» ⟨[.ref l, .int 0 u], []⟩) (fun _ R s => s.heap.get? l = some { cls := .type "tuple", dict := dd, data := .seq items n, slots := sl } ∧
      R (.ok (.ret (Value.ref s.heap.objs.size))) { s with heap := s.heap.push { cls := Value.type "tuple", data := Data.seq #[] }, toks := s.toks }) :=
  .of_wp fun prog w A R s h => by
    obtain ⟨hp, g, d, tk, os⟩ := s
    obtain ⟨hl, h⟩ := h
    have f1 := AutoSeq1.idx_int
    wp_walk using wpAny_loadPart' hl
    repeat (first
      | (refine wpAny_ite_false (by decide) ?_; wp_walk using wpAny_loadPart' hl)
      | (refine wpAny_ite_false (by simp [hi]) ?_; wp_walk using wpAny_loadPart' hl)
      | (refine wpAny_ite_true (by simp) ?_; wp_walk using wpAny_loadPart' hl)
      | (refine wpAny_ite_false (by simp [sizeLine_eq]) ?_; wp_walk using wpAny_loadPart' hl))
    exact ⟨_, rfl, h⟩
section
variable {X : Cx} {b : Bd} {F H : Hp}
def rMulT (K : PySem.W.Frag) : R2 := fun x y H Q => ∃ l k xs, x = .ref l ∧ y = .int k ∧ SqT K H l xs ∧ xs ≠ [] ∧ ((k = 1 ∧ Q (.ref l) H) ∨ (k = 0 ∧ ∀ p, H p = none → Q (.ref p) (upd H p (.tup []))))
theorem op_mulT : OpR X (binaryOp .Mult) (rMulT X.K) := by
  intro pins s σ H x y v u Q I rx ry ⟨l, k, xs, e1, e2, hT, hne, q⟩
  subst e1 e2
  obtain rfl : v = Value.ref l := rx
  obtain ⟨t, rfl⟩ := ry
  obtain ⟨its, r, ⟨⟨cls, dd, data, sl⟩, ho, hc, n, hd⟩, hs⟩ := I.tuple hT
  simp only at hc hd
  subst hc hd
  have hi : its.toArray.isEmpty = false := by
    cases its with
    | nil =>
      cases r
      exact absurd rfl hne
    | cons a b => rfl
  rcases q with ⟨rfl, q⟩ | ⟨rfl, q⟩
  · exact wpAny_binaryOp_repeat_ref (T := "tuple") (U := "int") (by decide) ⟨_, ho, rfl⟩ (fun s' => typeIs_int s' 1 t) noFill_tuple_mul F.fills_int_mul F.slot_int_rmul repeat_tuple F.slot_int_index.lookup
      (call_meets F.slot_int_rmul (typeIs_int s 1 t) F.entry_int_rmul (F.args_int_rmul_2 _ _) (int_rmul_tuple 1 t l its.toArray n dd sl)
        ⟨ho, rfl, ⟨_, ho, rfl⟩, call_meets F.slot_tuple_mul ⟨_, ho, rfl⟩ F.entry_tuple_mul (F.args_tuple_mul_2 _ _) (tup_mul1 l its.toArray n dd sl t) ⟨ho, ⟨.ref l, H, I, rfl, q⟩⟩⟩)
  · exact wpAny_binaryOp_repeat_ref (T := "tuple") (U := "int") (by decide) ⟨_, ho, rfl⟩ (fun s' => typeIs_int s' 0 t) noFill_tuple_mul F.fills_int_mul F.slot_int_rmul repeat_tuple F.slot_int_index.lookup
      (call_meets F.slot_int_rmul (typeIs_int s 0 t) F.entry_int_rmul (F.args_int_rmul_2 _ _) (int_rmul_tuple 0 t l its.toArray n dd sl)
        ⟨ho, rfl, ⟨_, ho, rfl⟩, call_meets F.slot_tuple_mul ⟨_, ho, rfl⟩ F.entry_tuple_mul (F.args_tuple_mul_2 _ _) (tup_mul0 l its.toArray n dd sl t hi)
          ⟨ho, ⟨.ref s.heap.objs.size, _, I.laid (t' := s.toks) (o := .tup []) (fun b ob q => Heap.get?_push_of_some _ q) (Nat.le_refl _) ⟨Nat.zero_le _, [], .nil, ⟨_, Heap.get?_push_size _ rfl, rfl, 0, rfl⟩⟩, rfl, q _ (I.hok.fresh (Nat.le_refl _))⟩⟩⟩)
def rMulD (K : PySem.W.Frag) : R2 := fun x y H Q => rI CMul (fun i j => .int (i * j)) x y H Q ∨ rMulT K x y H Q
theorem op_mulD : OpR X (binaryOp .Mult) (rMulD X.K) := op_mul.or op_mulT
theorem pow64 : (2 : Int) ^ 64 = 18446744073709551616 := by decide
theorem v_mul (ok : Okb b X) : Val2 b oMul (rMulD X.K) := fun F G S σ H d e v u z Q h r hv hu k => by
  cases d <;> first | (cases h; done) | skip
  · cases e <;> first | (cases h; done) | skip
    rename_i i j
    unfold oMul at h
    dsimp only at h
    split at h
    · rename_i c
      rw [Bool.and_eq_true, ilt_iff, ilt_iff] at c
      rw [oint_eq] at h
      obtain rfl := Option.some.inj h
      exact .inl ⟨i, j, int_of hv, int_of hu, .inl ⟨by rw [pow64]; exact of_decide_eq_true c.2, by rw [pow64]; exact of_decide_eq_true c.1⟩, k.now r Rep.int'⟩
    · split at h
      · rename_i c
        rw [Bool.and_eq_true, ilt_iff, ilt_iff] at c
        rw [oint_eq] at h
        obtain rfl := Option.some.inj h
        exact .inl ⟨i, j, int_of hv, int_of hu, .inr ⟨by rw [pow64]; exact of_decide_eq_true c.2, by rw [pow64]; exact of_decide_eq_true c.1⟩, k.now r Rep.int'⟩
      · cases h
  · rename_i l
    cases l with
    | nil => cases e <;> cases h
    | cons x l =>
      cases e <;> first | (cases h; done) | skip
      rename_i j
      unfold oMul at h
      dsimp only at h
      have hv0 := hv
      obtain ⟨p, vs, rfl, q1, q2⟩ := tup_of hv
      have ne : vs ≠ [] := fun e => by
        rw [e] at q2
        have := q2.len
        cases this
      split at h
      · rename_i c
        rw [ieq_iff] at c
        cases h
        exact .inr ⟨p, j, vs, rfl, int_of hu, ok.K ▸ sqT_up r.base.sameF q1, ne, .inl ⟨by simpa using c, k.now r hv0⟩⟩
      · split at h
        · rename_i c
          rw [ieq_iff] at c
          cases h
          exact .inr ⟨p, j, vs, rfl, int_of hu, ok.K ▸ sqT_up r.base.sameF q1, ne, .inr ⟨by simpa using c, fun p2 hp => k.tup r hp RepL.nil'⟩⟩
        · cases h
/-! ### dicts are made -/
theorem dic0 {P : Program} {w : World} {H : Hp} {h : Heap} (hb : sysModules < h.objs.size) : ObjOk P w H (h.push { cls := .type "dict", data := .dict #[] }) h.objs.size (dicO h.objs.size []) :=
  dicO_ok ⟨beq_eq_false_iff_ne.mpr (Ne.symm (Nat.ne_of_lt hb)), Nat.zero_le _, [], .nil, _, #[], 0, Heap.get?_push_size _ rfl, ⟨rfl, rfl, rfl⟩, rfl, rfl⟩
theorem key0 : KeyR b F [] [] := ⟨RepL.nil', rfl, rfl, List.nodup_nil⟩
/-- {} that will be changed -/
def tNewD : TE := fun _ H Q => ∀ p, H p = none → Q (.ref p) (upd H p (dicO p []))
theorem pe_newD {pos : Pos} : PE X (.Dict [] [] pos) tNewD := ⟨fun pins s σ H Q I h =>
  wpAny_Dict_empty ⟨.ref s.heap.objs.size, _, I.laid (a := s.heap.objs.size) (o := dicO s.heap.objs.size []) (t' := s.toks) (fun _ _ q => Heap.get?_push_of_some _ q) (Nat.le_refl _) (dic0 I.big), rfl, h _ (I.hok.fresh (Nat.le_refl _))⟩⟩
/-- {} that stays so -/
def tNewF : TE := fun _ H Q => ∀ p o, H p = none → Q (.ref p) (upd H p (.frz o (dicO p [])))
theorem pe_newF {pos : Pos} : PE X (.Dict [] [] pos) tNewF := ⟨fun pins s σ H Q I h =>
  wpAny_Dict_empty ⟨.ref s.heap.objs.size, _, I.laid (a := s.heap.objs.size) (o := .frz { cls := .type "dict", data := .dict #[] } (dicO s.heap.objs.size [])) (t' := s.toks) (fun _ _ q => Heap.get?_push_of_some _ q) (Nat.le_refl _) ⟨Heap.get?_push_size _ rfl, dic0 I.big⟩, rfl, h _ _ (I.hok.fresh (Nat.le_refl _))⟩⟩
theorem rep_dct0 {p : Addr} {o : Obj} {F' : Hp} (h : F' p = some (.frz o (dicO p []))) : Rep b F' (.dct [] []) (.ref p) := by
  rw [Rep]
  exact ⟨p, o, [], rfl, h, key0, RepL.nil'⟩
theorem r_dict0 {pos : Pos} : PE X (.Dict [] [] pos) (tE b (eC (.dct [] []))) := pe_newF.weak fun σ H Q ⟨F, G, S, d, S', e, r, k⟩ p o hp => by
  cases e
  exact Got.new (Q := Q) k r hp (rep_dct0 upd_same)
/-- dictSet, into the new dict -/
theorem d_putT (ok : Okb b X) {pins : List (Addr × Obj)} {σ : Sg} {s : Shared} {R : Unit → Shared → Prop} (I : Inv X pins σ H s) (sm : Same F H) {a : Addr} {es : List Rw3} {ks vs ks' vs' : List D} {k v : D} {y z : V} {u t : Value} (ha : H a = some (dicO a es)) (kr : KeyR b F ks es) (rl : RepL b F vs (es.map (·.2.2)))
    (hy : Rep b F k y) (ry : RelV y u) (hz : Rep b F v z) (rz : RelV z t) (hf : dSet k v ks vs = some (ks', vs'))
    (q : ∀ es' s', KeyR b F ks' es' → RepL b F vs' (es'.map (·.2.2)) → Inv X pins σ (upd H a (dicO a es')) s' → R () s') : wpAny (model X.prog X.w) X.A (dictSet a u t) R X.xe s := by
  unfold dSet at hf
  split at hf
  · rename_i hk
    rw [Bool.and_eq_true, Bool.and_eq_true] at hk
    obtain ⟨hfew, k1, k2⟩ := hk
    obtain ⟨c, rfl⟩ := rep_tup k2 hy
    obtain rfl : u = Value.ref c := ry
    obtain ⟨p1, p2, us, rv, l1, l2, dd⟩ := rows_of ok I sm (.inl ha) kr
    have few := few_le hfew
    have un := ok.un
    refine wpAny_dictSet_heap (knd := treeK X.prog X.w) (hsz := by rw [rowsD_len l1 l2]; exact line_le few) (show X.A.units + 10 < cLine by omega) ⟨k1, k2, rep_at ok I sm k hy rfl⟩ dd fun h' dd' hs => ?_
    rw [storedX (by rw [rowsD_keys l1 l2]; exact kr.2.2.2)] at dd'
    obtain ⟨es', us', e1, e2, e3, e4, e5, _⟩ := put_rows (r := t) k1 hy rz hz hf kr rl rv
    rw [e1] at dd'
    have hl : es'.length ≤ sizeLine := by
      have : es.length ≤ 100000 := by rw [← l1]; exact few
      have := line_lt (n := 100001) (Nat.le_refl _)
      omega
    have he : ∃ o, h'.get? a = some o := let ⟨o, _, _, z, _⟩ := dd'; ⟨o, z⟩
    refine q es' _ e2 e3 (I.write (x := a) (e := a) (by rw [ha]; exact True.intro) (.inl rfl) (fun c o hc e => (hs.2 c hc).trans e) he ?_)
    exact dic_put e2 ok.w e4 p1 hl dd'
  · cases hf
/-- {k: v} -/
def tDisp1 (b : Bd) (ta tb : TE) : TE := fun σ H Q => ∀ p, H p = none → ta σ (upd H p (dicO p [])) fun y H1 => tb σ H1 fun z H2 => H2 p = some (dicO p []) ∧ ∃ F k v, Same F H2 ∧ Rep b F k y ∧ Rep b F v z ∧ keyD 7 k = true ∧ isTup k = true ∧
  ∀ es o, KeyR b F [k] es → RepL b F [v] (es.map (·.2.2)) → Q (.ref p) (upd H2 p (.frz o (dicO p es)))
theorem pe_disp1 (ok : Okb b X) {a e : Expr} {ta tb : TE} {pos : Pos} (ha : PE X a ta) (he : PE X e tb) (hs : (evalEachOpt [some a] X.env).zip ((evalEach [e] X.env).map fun v => do let x ← v; standAt pos; pure x) = [(some (eval a X.env), do let x ← eval e X.env; standAt pos; pure x)]) :
    PE X (.Dict [some a] [e] pos) (tDisp1 b ta tb) := by
  refine ⟨fun pins s σ H Q I h => ?_⟩
  have fr := I.hok.fresh (Nat.le_refl s.heap.objs.size)
  have I1 : Inv X pins σ (upd H s.heap.objs.size (dicO s.heap.objs.size [])) { s with heap := s.heap.push { cls := .type "dict", data := .dict #[] } } := I.laid (t' := s.toks) (fun _ _ q => Heap.get?_push_of_some _ q) (Nat.le_refl _) (dic0 I.big)
  have h0 := h _ fr
  have ed := dictDisplay_pairs [(eval a X.env, do let x ← eval e X.env; standAt pos; pure x)] (by simp) (by simp)
  rw [arm_eval_Dict, hs]
  rw [List.map_cons, List.map_nil] at ed
  rw [ed]
  refine wpAny_bind (wpAny_standAt (wpAny_bind ?_))
  unfold subDict
  refine wpAny_bind (wpAny_alloc ?_)
  refine wpAny_bind (wpAny_holding ?_)
  rw [if_pos (by simp)]
  refine wpAny_bind (evalPairs_cons (thn (ha.run pins _ σ _ _ I1 h0) fun u s1 ⟨y, H1, I2, ry, q1⟩ => ?_))
  refine wpAny_bind (thn (he.run pins s1 σ H1 _ I2 q1) fun t s2 ⟨z, H2, I3, rz, hp, F, k, v, sm, hy, hz, k1, k2, q2⟩ => ?_)
  refine wpAny_bind (wpAny_standAt (wpAny_pure (evalPairs_nil ?_)))
  refine wpAny_holding ?_
  rw [List.forIn_cons]
  have hf : dSet k v [] [] = some ([k], [v]) := by
    unfold dSet
    rw [k1, k2]
    rfl
  refine wpAny_bind ?_
  refine wpAny_bind ?_
  show wpAny _ _ (dictSet s.heap.objs.size u t >>= fun _ => pure (ForInStep.yield PUnit.unit)) _ _ s2
  refine wpAny_bind (d_putT ok I3 sm hp key0 RepL.nil' hy ry hz rz hf fun es s3 kr rl I4 => wpAny_pure ?_)
  dsimp only
  rw [List.forIn_nil]
  obtain ⟨od, I5⟩ := I4.lock upd_same True.intro
  rw [upd_upd] at I5
  exact wpAny_pure (wpAny_pure (wpAny_pure (wpAny_pure ⟨.ref s.heap.objs.size, _, I5, rfl, q2 es od kr rl⟩)))
theorem disp1_w {σ : Sg} {Q : VK} {ma mb : M} : tE b (e2 oD1 ma mb) σ H Q → tDisp1 b (tE b ma) (tE b mb) σ H Q := fun ⟨F, G, S, d, S', e, r, k⟩ p hp => by
  unfold e2 at e
  cases hm : ma S with
  | no =>
    rw [hm] at e
    cases e
  | go x S1 =>
    rw [hm] at e
    dsimp only at e
    cases hn : mb S1 with
    | no =>
      rw [hn] at e
      cases e
    | go y S2 =>
      rw [hn] at e
      dsimp only at e
      cases hf : oD1 x y with
      | none =>
        rw [hf] at e
        cases e
      | some z =>
        rw [hf] at e
        cases e
        unfold oD1 at hf
        split at hf
        · rename_i hk
          rw [Bool.and_eq_true] at hk
          cases hf
          have r0 : Rel b F ((p, dicO p []) :: G) S σ (upd H p (dicO p [])) := r.ghost hp fun a z => by cases z
          refine ⟨F, _, S, x, S1, hm, r0, fun F1 v H1 s1 r1 h1 => ⟨F1, _, S1, y, _, hn, r1, fun F2 u H2 s2 r2 h2 => ?_⟩⟩
          refine ⟨(r2.base.gh (p, dicO p []) List.mem_cons_self).1, F2, x, y, r2.base.sameF, Rep.mono s2 x h1, h2, hk.1, hk.2, fun es o kr rl => ?_⟩
          have nd : ∀ q ∈ G, q.1 ≠ p := fun q hq z => by
            have := (r.base.gh q hq).1
            rw [z, hp] at this
            cases this
          have r3 := r2.ghostTurn (o' := .frz o (dicO p es)) nd fun a z => by cases z
          obtain ⟨r4, s4⟩ := r3.ghostFreeze nd
          refine k _ _ _ ((s1.trans s2).trans s4) r4 ?_
          rw [Rep]
          exact ⟨p, o, es, rfl, upd_same, kr.mono s4, RepL.mono s4 [y] rl⟩
        · cases hf
theorem r_disp1 (ok : Okb b X) {a e : Expr} {ma mb : M} {pos : Pos} (ha : PE X a (tE b ma)) (he : PE X e (tE b mb)) (hs : (evalEachOpt [some a] X.env).zip ((evalEach [e] X.env).map fun v => do let x ← v; standAt pos; pure x) = [(some (eval a X.env), do let x ← eval e X.env; standAt pos; pure x)]) :
    PE X (.Dict [some a] [e] pos) (tE b (e2 oD1 ma mb)) := (pe_disp1 ok ha he hs).weak fun _ _ _ q => disp1_w q
/-! ### sum(d.values()) -/
theorem preSum_take (ns : List Int) : ∀ k, k ≤ ns.length → preSum (fun i => ns.getD i 0) k = (ns.take k).sum
  | 0, _ => rfl
  | k + 1, h => by
    have e : ns.take (k + 1) = ns.take k ++ [ns[k]] := by rw [List.take_add_one, List.getElem?_eq_getElem (by omega)]; rfl
    rw [preSum, preSum_take ns k (by omega), e, List.sum_append]
    simp [List.getD_eq_getElem?_getD, List.getElem?_eq_getElem (show k < ns.length by omega)]
/-- dict.values of a dict of trees -/
theorem call_valuesT {prog : Program} {w : World} {A : Around} {E : Value → Shared → Prop} {s : Shared} {d : Addr} {es : Array DictEntry} {ep : Nat} {o : Obj} {Q : Value → Shared → Prop} (hd : (d == sysModules) = false) (ho : s.heap.get? d = some o) (hx : o.ExactDict) (hD : o.data = .dict es ep)
    (h : Q (.ref s.heap.objs.size) { s with heap := s.heap.push (DSub.viewOb "dict_values" d) }) : wpAny (model prog w) A (call (.builtin "dict.values") [.ref d]) Q E s := by
  have ty : s.TypeIs (.ref d) "dict" := ⟨o, ho, hx.1⟩
  have mt : MeetsIn prog w (Builtin.«dict.values» ⟨[.ref d], []⟩) (fun _ R s => s.TypeIs (.ref d) "dict" ∧ R (.ok (.ret (.ref s.heap.objs.size))) { s with heap := s.heap.push (DSub.viewOb "dict_values" d) }) := .of_wp fun A R s ⟨ty, h⟩ => by
    show wpAny _ _ (Builtin.Dict.noArgs "values" ⟨[.ref d], []⟩ >>= _) _ _ s
    unfold Builtin.Dict.noArgs
    refine wpAny_bind (wpAny_bind (wpAny_notOrdered_dict ty (wpAny_pure ?_)))
    show wpAny _ _ (Builtin.Dict.showsAll d >>= _) _ _ s
    unfold Builtin.Dict.showsAll
    rw [if_neg (by rw [hd]; exact Bool.false_ne_true)]
    exact wpAny_bind (wpAny_pure (wpAny_bind (wpAny_newObj_type (wpAny_pure ⟨_, rfl, h⟩))))
  exact call_meetsIn PySem.F.slot_dict_values ty PySem.F.entry_dict_values (PySem.F.args_dict_values_1 _) mt ⟨ty, h⟩
def tSumV (b : Bd) (td : TE) : TE := fun σ H Q => td σ H fun x H1 => ∃ F ks vs i, Same F H1 ∧ DV b F H1 ks vs x ∧ sumI vs = some i ∧ Q (.int i) H1
theorem pe_sumV (ok : Okb b X) {o : Expr} {td : TE} {p pos apos mpos : Pos} (hg : Gl X "sum") (hm : X.mg "sum" = none) (hd : PE X o td) (hbase : attributeBase o "values" X.env (eval o X.env) = eval o X.env) (hline : (apos.endLine == mpos.line) = true)
    (hse : starEach [Expr.Call (.Attribute o "values" apos) [] [] mpos] X.env = [(false, eval (Expr.Call (.Attribute o "values" apos) [] [] mpos) X.env)]) : PE X (.Call (.Name "sum" p) [.Call (.Attribute o "values" apos) [] [] mpos] [] pos) (tSumV b td) := by
  refine ⟨fun pins s σ H Q I h => ?_⟩
  refine wpAny_Call_Name_kw (ld_blt I hg hm boot_sum ?_ (by decide) (by decide))
  rw [hse]
  refine PySem.callWith_builtin1 (wpAny_Call_method0_late hbase hline (thn (hd.run pins s σ H _ I h) fun v s1 ⟨x, H1, I1, r1, F, ks, vs, i, sm, ⟨a, es, ex, ha, kr, rl⟩, hs, q⟩ => ?_))
  subst ex
  obtain rfl : v = Value.ref a := r1
  have dq : DicAt a es s1.heap := (ha.ok I1.hok).1
  obtain ⟨p1, p2, us, rv, ob, ds, ep, p3, p4, p5, p6⟩ := dq
  refine ⟨"dict", "dict.values", PySem.F.plainAttrs_dict, PySem.F.slot_dict_values, PySem.F.type_dict_values, ⟨ob, p3, p4.1⟩, fun b e => ?_, Calls.callWith_builtin rfl (PySem.evalArgs_none ?_)⟩
  · cases e
    exact ⟨ob, p3, p4.2.1⟩
  refine call_valuesT p1 p3 p4 p5 ?_
  obtain ⟨ns, n1, n2⟩ := sum_ints hs rl
  rw [n1] at rv
  have lu : us.length = ns.length := by
    have := rv.length
    rw [List.length_map] at this
    exact this.symm
  have le : es.length = ns.length := by
    have := congrArg List.length n1
    rw [List.length_map, List.length_map] at this
    exact this
  have lds : ds.size = ns.length := by
    have := congrArg List.length p6
    rw [Array.length_toList, List.length_zipWith, le, lu, Nat.min_self] at this
    exact this
  have hval : ∀ (j : Nat) (e : DictEntry), ds[j]? = some e → ∃ t, e.val = Value.int (ns.getD j 0) t := fun j e he => by
    have hj : j < ds.size := (Array.getElem?_eq_some_iff.mp he).1
    rw [← Array.getElem?_toList, p6, List.getElem?_zipWith] at he
    have h1 : (ns.map V.int)[j]? = some (V.int (ns.getD j 0)) := by
      rw [List.getElem?_map, List.getD_eq_getElem?_getD, List.getElem?_eq_getElem (by omega)]
      rfl
    obtain ⟨u, u1, t, u2⟩ := rv.get h1
    rw [u1] at he
    cases e1 : es[j]? with
    | none =>
      rw [e1] at he
      cases he
    | some en =>
      rw [e1] at he
      cases he
      exact ⟨t, u2⟩
  have hlt : a < s1.heap.objs.size := Heap.lt_size p3
  have hsz : (s1.heap.push (DSub.viewOb "dict_values" a)).objs.size = s1.heap.objs.size + 1 := Heap.size_push _ _
  refine call_sum_walkG (DSub.iter_vals (v := s1.heap.objs.size) (a := a) (Heap.get?_push_size _ rfl) (Heap.get?_push_of_some _ p3) p5 ?_)
  refine ⟨_, _, _, _, _, _, fun j => ns.getD j 0, rfl, DSub.walksVal (P := fun j v => ∃ t, v = Value.int (ns.getD j 0) t) (A := X.A.in1) (I.ok.hd ok.calm) (I := (s1.heap.push (DSub.viewOb "dict_values" a)).objs.size) (a := a) (by rw [hsz]; exact Nat.ne_of_lt (Nat.lt_succ_of_lt hlt)) p5 hval,
    ⟨Heap.get?_push_size _ rfl, Heap.get?_push_of_some _ (Heap.get?_push_of_some _ p3)⟩, fun c hc => ?_, fun j v hv => hv, fun h' tk t' hk => ?_⟩
  · show c < ((s1.heap.push _).push _).objs.size
    rw [Heap.size_push, hsz]
    rcases List.mem_cons.mp hc with rfl | hc
    · rw [hsz]
      exact Nat.lt_succ_self _
    · rw [List.mem_singleton.mp hc]
      exact Nat.lt_succ_of_lt (Nat.lt_succ_of_lt hlt)
  · rw [lds, preSum_take ns ns.length (Nat.le_refl _), List.take_length, n2]
    refine ⟨.int i, H1, I1.kept fun c ob e => ?_, ⟨_, rfl⟩, q⟩
    refine hk c ob (fun hm => ?_) (Heap.get?_push_of_some _ (Heap.get?_push_of_some _ e))
    have := Heap.lt_size e
    rw [List.mem_singleton.mp hm, hsz] at this
    exact Nat.lt_irrefl _ (Nat.lt_of_succ_lt this)
theorem r_sumV (ok : Okb b X) {o : Expr} {mo : M} {p pos apos mpos : Pos} (hg : Gl X "sum") (hm : X.mg "sum" = none) (hd : PE X o (tE b mo)) (hbase : attributeBase o "values" X.env (eval o X.env) = eval o X.env) (hline : (apos.endLine == mpos.line) = true)
    (hse : starEach [Expr.Call (.Attribute o "values" apos) [] [] mpos] X.env = [(false, eval (Expr.Call (.Attribute o "values" apos) [] [] mpos) X.env)]) : PE X (.Call (.Name "sum" p) [.Call (.Attribute o "values" apos) [] [] mpos] [] pos) (tE b (e1 oSumVals mo)) :=
  (pe_sumV ok hg hm hd hbase hline hse).weak fun σ H Q q => e1_w (r := fun x H1 Q => ∃ F ks vs i, Same F H1 ∧ DV b F H1 ks vs x ∧ sumI vs = some i ∧ Q (.int i) H1) (fun F G S σ H d v z Q h r hv k => by
    cases d <;> first | (cases h; done) | skip
    rename_i ks vs
    have h' : oi (sumI vs) = some z := h
    cases e : sumI vs with
    | none =>
      rw [e] at h'
      cases h'
    | some c =>
      rw [e] at h'
      have h2 : oint c = some z := h'
      rw [oint_eq] at h2
      obtain rfl := Option.some.inj h2
      exact ⟨F, ks, vs, c, r.base.sameF, DV.of_rep r.base.sameF hv, e, k.now r Rep.int'⟩) q
/-! ### x != [] -/
theorem dp_ints (ok : Okb b X) {G : Gh} {S : Ss} {σ : Sg} (r : Rel b F G S σ H) : ∀ {l : List D}, (∀ d ∈ l, hasTy (.l .i) d = true) → ∀ {vs : List V}, RepL b F l vs → ∃ ds, DpAll X.K H vs ds ∧ ds.length = l.length ∧ PyData.canLayAll0 ds = true ∧ PyData.depthAll ds ≤ 1
  | [], _, vs, h => by
    rw [h.unnil]
    exact ⟨[], .nil, rfl, rfl, by simp [PyData.depthAll]⟩
  | d :: l, hl, vs, h => by
    obtain ⟨v, t, rfl, h1, h2⟩ := h.uncons
    obtain ⟨ds, z1, z2, z3, z4⟩ := dp_ints ok r (fun e he => hl e (List.mem_cons_of_mem _ he)) h2
    have hd := hl d List.mem_cons_self
    cases d <;> first | (simp [hasTy] at hd; done) | skip
    rename_i m
    obtain ⟨p, us, rfl, q1, q2⟩ := tup_of h1
    have hm : ∀ d ∈ m, hasTy .i d = true := by simpa [hasTy] using hd
    have inn : ∀ (m : List D), (∀ d ∈ m, hasTy .i d = true) → ∀ us, RepL b F m us → ∃ ns : List PyData, DpAll X.K H us ns ∧ PyData.canLayAll0 ns = true ∧ PyData.depthAll ns = 0 := by
      intro m
      induction m with
      | nil =>
        intro _ us h
        rw [h.unnil]
        exact ⟨[], .nil, rfl, rfl⟩
      | cons x m ih =>
        intro hm us h
        obtain ⟨v, t, rfl, g1, g2⟩ := h.uncons
        obtain ⟨ns, y1, y2, y3⟩ := ih (fun e he => hm e (List.mem_cons_of_mem _ he)) t g2
        have hx := hm x List.mem_cons_self
        cases x <;> first | (simp [hasTy] at hx; done) | skip
        rename_i i
        rw [int_of g1]
        exact ⟨.int i :: ns, .cons (.int i) y1, by simp [PyData.canLayAll0, PyData.canLay0, y2], by simp [PyData.depthAll, PyData.depth, y3]⟩
    obtain ⟨ns, y1, y2, y3⟩ := inn m hm us q2
    refine ⟨.tuple ns :: ds, .cons (.tup (ok.K ▸ sqT_up r.base.sameF q1) y1) z1, by rw [List.length_cons, List.length_cons, z2], ?_, ?_⟩
    · simp [PyData.canLayAll0, PyData.canLay0, y2, z3]
    · simp only [PyData.depthAll, PyData.depth, y3]
      omega
theorem r_neNilT (ok : Okb b X) {a : Expr} {ma : M} {pos lpos : Pos} (ha : PE X a (tE b ma)) : PT X (.Compare a [.NotEq] [.List [] lpos] pos) (tT b (e1 oNeNil ma)) := by
  refine (pt_cmpR (op_neD ok.un) ha (pe_lst pa_nil) (nomark _)).weak fun σ H Q q => ?_
  refine e1_w (r := fun x H1 Q => (0 : Nat) ≤ sizeLine ∧ ∀ p, H1 p = none → rNeD X.K x (.ref p) (upd H1 p (.lst [])) Q) (fun F G S σ H d v z Q h r hv k => ⟨Nat.zero_le _, fun p hp => ?_⟩) (tT_tE q)
  have r2 : Rel b F G S σ (upd H p (.lst [])) := r.grow (fun _ _ e => e) (same_upd' hp) (r.base.sameF.trans (same_upd' hp)) fun _ q => .inl q
  cases d <;> first | (cases h; done) | skip
  rename_i l
  obtain ⟨p2, vs, rfl, q1, q2⟩ := lst_of hv
  have nil : Dp X.K (upd H p (.lst [])) (.ref p) (.list []) := .lst (SqL.of upd_same) .nil
  cases l with
  | nil =>
    cases h
    rw [q2.unnil] at q1
    exact ⟨.list [], .list [], .lst (SqL.of (r2.base.sameF _ _ q1)) .nil, nil, by decide, by decide, k.now r2 Rep.bl'⟩
  | cons x l =>
    unfold oNeNil at h
    dsimp only at h
    split at h
    · rename_i hall
      cases h
      obtain ⟨ds, z1, z2, z3, z4⟩ := dp_ints ok r2 (List.all_eq_true.mp hall) q2
      refine ⟨.list ds, .list [], .lst (SqL.of (r2.base.sameF _ _ q1)) z1, nil, ?_, by decide, ?_⟩
      · unfold PySem.SeqAt.shaped
        rw [PyData.canLay0, z3, PyData.depth]
        simp
        omega
      · have : PyData.eqv (.list ds) (.list []) = false := by
          cases ds with
          | nil => cases z2
          | cons y ds => simp [PyData.eqv, PyData.eqvAll]
        rw [this]
        exact k.now r2 Rep.bl'
    · cases h
end
end Tee
set_option maxRecDepth 100000
set_option maxHeartbeats 4000000
/-! get, setdefault; what stays with its slot. -/
namespace Tee
open PySem PySem.Spec PyProof.Rows L2
section
variable {X : Cx} {b : Bd} {F H : Hp} {G : Gh} {S : Ss} {σ : Sg}
/-- a dict stands at x, of whatever -/
def IsDic (H : Hp) (x : V) : Prop := ∃ a es, x = .ref a ∧ Rd H a (dicO a es)
theorem isDic_at {pins : List (Addr × Obj)} {s : Shared} {x : V} {u : Value} (I : Inv X pins σ H s) (d : IsDic H x) (r : RelV x u) : s.TypeIs u "dict" ∧ ∀ c, u = .ref c → ∃ ob, s.heap.get? c = some ob ∧ ob.dict = none := by
  obtain ⟨a, es, rfl, h⟩ := d
  obtain rfl : u = Value.ref a := r
  have q : DicAt a es s.heap := (h.ok I.hok).1
  obtain ⟨_, _, us, _, o, ds, ep, e1, e2, _⟩ := q
  refine ⟨⟨o, e1, e2.1⟩, fun c e => ?_⟩
  cases e
  exact ⟨o, e1, e2.2.1⟩
def tGetT (b : Bd) (td ty tx : TE) : TE := fun σ H Q => td σ H fun x H1 => IsDic H1 x ∧ ty σ H1 fun y H2 => tx σ H2 fun z H3 => ∃ F ks vs k r, Same F H3 ∧ DV b F H3 ks vs x ∧ Rep b F k y ∧ dFind k ks vs = some r ∧ (r = none → Q z H3) ∧ ∀ v, r = some v → ∀ w, Rep b F v w → Q w H3
variable {o e f : Expr} {td ty tx : TE} {apos cpos pos : Pos} {mo me mf : M}
theorem pe_getT (ok : Okb b X) (ho : PE X o td) (he : PE X e ty) (hf : PE X f tx) (m : M2 X o "get" apos e f cpos) : PE X (.Call (.Attribute o "get" apos) [e, f] [] cpos) (tGetT b td ty tx) := by
  refine ⟨fun pins s σ H Q I h => ?_⟩
  refine wpAny_Call_method m.base m.few m.line PySem.F.plainAttrs_dict PySem.F.slot_dict_get PySem.F.type_dict_get (thn (ho.run pins s σ H _ I h) fun u s1 ⟨x, H1, I1, rx, d, q1⟩ => ?_)
  obtain ⟨t1, t2⟩ := isDic_at I1 d rx
  refine ⟨t1, t2, ?_⟩
  rw [m.trees]
  refine Calls.callWith_builtin rfl (Calls.evalArgs_plain (Calls.spliced_cons (thn (he.run pins s1 σ H1 _ I1 q1) fun iv s2 ⟨y, H2, I2, ry, q2⟩ =>
    Calls.spliced_cons (thn (hf.run pins s2 σ H2 _ I2 q2) fun fv s3 ⟨z, H3, I3, rz, F, ks, vs, k, r, sm, hx, hy, hf, q3, q4⟩ => Calls.spliced_nil ?_))))
  exact d_getT ok I3 sm rx hx hy ry rz hf q3 q4
theorem DV.dic {ks vs : List D} {x : V} (h : DV b F H ks vs x) : IsDic H x := by
  obtain ⟨a, es, e, h, _⟩ := h
  exact ⟨a, es, e, h⟩
/-- get of a dict that is frozen -/
theorem r_get (ok : Okb b X) (ho : PE X o (tE b mo)) (he : PE X e (tE b me)) (hf : PE X f (tE b mf)) (m : M2 X o "get" apos e f cpos) : PE X (.Call (.Attribute o "get" apos) [e, f] [] cpos) (tE b (e3 oGet mo me mf)) := (pe_getT ok ho he hf m).weak fun σ H Q ⟨F, G, S, d, S', ee, rel, k⟩ => by
  unfold e3 at ee
  cases hm : mo S with
  | no =>
    rw [hm] at ee
    cases ee
  | go x S1 =>
    rw [hm] at ee
    dsimp only at ee
    cases hn : me S1 with
    | no =>
      rw [hn] at ee
      cases ee
    | go y S2 =>
      rw [hn] at ee
      dsimp only at ee
      cases hq : mf S2 with
      | no =>
        rw [hq] at ee
        cases ee
      | go z S3 =>
        rw [hq] at ee
        dsimp only at ee
        cases hg : oGet x y z with
        | none =>
          rw [hg] at ee
          cases ee
        | some g =>
          rw [hg] at ee
          cases ee
          cases x <;> first | (cases hg; done) | skip
          rename_i ks vs
          refine ⟨F, G, S, _, S1, hm, rel, fun F1 v H1 s1 r1 h1 => ⟨(DV.of_rep r1.base.sameF h1).dic, F1, G, S1, y, S2, hn, r1, fun F2 u H2 s2 r2 h2 => ⟨F2, G, S2, z, _, hq, r2, fun F3 w H3 s3 r3 h3 => ?_⟩⟩⟩
          have dv := DV.of_rep r3.base.sameF (Rep.mono (s2.trans s3) _ h1)
          cases hfd : dFind y ks vs with
          | none =>
            unfold oGet at hg
            simp only [hfd] at hg
            cases hg
          | some r =>
            refine ⟨F3, ks, vs, y, r, r3.base.sameF, dv, Rep.mono s3 y h2, hfd, fun e0 => ?_, fun v e0 w' hw => ?_⟩
            · subst e0
              unfold oGet at hg
              simp only [hfd] at hg
              cases hg
              exact k F3 w H3 ((s1.trans s2).trans s3) r3 h3
            · subst e0
              unfold oGet at hg
              simp only [hfd] at hg
              cases hg
              exact k F3 w' H3 ((s1.trans s2).trans s3) r3 hw
/-! ### of a slot's own dict -/
theorem slot_dv {i : Nat} {ks vs : List D} (r : Rel b F G S σ H) (h : gets S i = .dv ks vs) : ∃ a es, σ[i]? = some (some (.ref a)) ∧ H a = some (dicO a es) ∧ KeyR b F ks es ∧ RepL b F vs (es.map (·.2.2)) ∧ LiveAt S σ i a ∧ F a = none ∧ b.H0 a = none := by
  have q := r.slots i
  rw [h] at q
  obtain ⟨a, es, h1, h2, h3, h4, h5, h6⟩ := q
  exact ⟨a, es, h1, h2, h5, h6, ⟨by rw [h]; rfl, h1⟩, h3, h4⟩
theorem slot_lv {i : Nat} {l : List D} (r : Rel b F G S σ H) (h : gets S i = .lv l) : ∃ a vs, σ[i]? = some (some (.ref a)) ∧ H a = some (.lst vs) ∧ RepL b F l vs ∧ LiveAt S σ i a ∧ F a = none ∧ b.H0 a = none := by
  have q := r.slots i
  rw [h] at q
  obtain ⟨a, vs, h1, h2, h3, h4, h5⟩ := q
  exact ⟨a, vs, h1, h2, h5, ⟨by rw [h]; rfl, h1⟩, h3, h4⟩
theorem isDv_of {x : Sl} (h : isDv x = true) : ∃ ks vs, x = .dv ks vs := by
  cases x <;> first | (cases h; done) | exact ⟨_, _, rfl⟩
theorem isLv_of {x : Sl} (h : isLv x = true) : ∃ l, x = .lv l := by
  cases x <;> first | (cases h; done) | exact ⟨_, rfl⟩
theorem slot_ref {i : Nat} (r : Rel b F G S σ H) (h : isLive (gets S i) = true) : ∃ a, σ[i]? = some (some (.ref a)) := by
  obtain ⟨a, o, e, _⟩ := (r.slots i).live h
  exact ⟨a, e⟩
/-- a dict at its slot takes a key -/
theorem Rel.dput {i : Nat} {ks vs ks' vs' : List D} {a : Addr} {es es' : List Rw3} (r : Rel b F G S σ H) (hg : gets S i = .dv ks vs) (h1 : σ[i]? = some (some (.ref a))) (kr : KeyR b F ks' es') (rl : RepL b F vs' (es'.map (·.2.2))) (ha : H a = some (dicO a es)) (hF : F a = none) (h0 : b.H0 a = none) :
    Rel b F G (sets S i (.dv ks' vs')) σ (upd H a (dicO a es')) := by
  have own := r.own1 (i := i) (a := a) ⟨by rw [hg]; rfl, h1⟩
  refine r.turn (F' := F) (H' := upd H a (dicO a es')) (fun c => c = a) (fun c z => by subst z; exact ⟨h0, own.1, own.2⟩) (fun d c z q => ?_) (fun c z => upd_ne z) (fun c z => rfl) (fun c z => by subst z; exact hF) (fun c z o e => ?_) (fun _ => by rw [hg]; rfl) ⟨a, es', h1, upd_same, hF, h0, kr, rl⟩
  · subst z
    exact (not_own ha (fun x z => by cases z) q).elim
  · subst z
    rw [hF] at e
    cases e
theorem Rel.lput {i : Nat} {l l' : List D} {a : Addr} {vs vs' : List V} (r : Rel b F G S σ H) (hg : gets S i = .lv l) (h1 : σ[i]? = some (some (.ref a))) (rl : RepL b F l' vs') (ha : H a = some (.lst vs)) (hF : F a = none) (h0 : b.H0 a = none) :
    Rel b F G (sets S i (.lv l')) σ (upd H a (.lst vs')) := by
  have own := r.own1 (i := i) (a := a) ⟨by rw [hg]; rfl, h1⟩
  refine r.turn (F' := F) (H' := upd H a (.lst vs')) (fun c => c = a) (fun c z => by subst z; exact ⟨h0, own.1, own.2⟩) (fun d c z q => ?_) (fun c z => upd_ne z) (fun c z => rfl) (fun c z => by subst z; exact hF) (fun c z o e => ?_) (fun _ => by rw [hg]; rfl) ⟨a, vs', h1, upd_same, hF, h0, rl⟩
  · subst z
    exact (not_own ha (fun x z => by cases z) q).elim
  · subst z
    rw [hF] at e
    cases e
/-- name[k] -/
theorem r_pkIx {i : Nat} {x : PySem.Str} {p : Pos} (ok : Okb b X) (hv : PE X (.Name x p) (tVar i)) (he : PE X e (tE b me)) (hs : PlainIx e) : PE X (.Subscript (.Name x p) e pos) (tE b (ePkIx i me)) := (pe_ix (ix_any ok) hv he hs).weak fun σ H Q ⟨F, G, S, d, S', ee, rel, k⟩ => by
  unfold ePkIx pkE at ee
  split at ee
  · rename_i hl
    dsimp only at ee
    obtain ⟨a, ha⟩ := slot_ref rel hl
    refine ⟨_, ha, ?_⟩
    cases hm : me S with
    | no =>
      rw [hm] at ee
      cases ee
    | go y S1 =>
      rw [hm] at ee
      dsimp only at ee
      refine ⟨F, G, S, y, S1, hm, rel, fun F1 u H1 s1 r1 h1 => ?_⟩
      split at ee
      · rename_i l hg
        cases hx : oIx (.lst l) y with
        | none =>
          rw [hx] at ee
          cases ee
        | some z =>
          rw [hx] at ee
          cases ee
          obtain ⟨a', vs, e1, e2, e3, _⟩ := slot_lv r1 hg
          rw [ha] at e1
          cases e1
          cases y <;> first | (cases hx; done) | skip
          obtain ⟨w, g1, g2⟩ := atD_atI hx e3
          exact .inr (.inl ⟨a, vs, _, w, rfl, int_of h1, SqL.of e2, g1, k F1 w H1 s1 r1 g2⟩)
      · rename_i ks vs hg
        cases hx : oIx (.dct ks vs) y with
        | none =>
          rw [hx] at ee
          cases ee
        | some z =>
          rw [hx] at ee
          cases ee
          obtain ⟨a', es, e1, e2, e3, e4, _⟩ := slot_dv r1 hg
          rw [ha] at e1
          cases e1
          have h' : (match dFind y ks vs with
            | some (some v) => some v
            | _ => none) = some d := by
            cases y <;> exact hx
          split at h'
          · rename_i w hf
            cases h'
            exact .inr (.inr ⟨F1, ks, vs, y, _, r1.base.sameF, ⟨a, es, rfl, .inl e2, e3, e4⟩, h1, hf, fun w' hw => k F1 w' H1 s1 r1 hw⟩)
          · cases h'
      · cases ee
  · cases ee
/-- k in name -/
theorem r_pkIn {i : Nat} {x : PySem.Str} {p : Pos} (ok : Okb b X) (he : PE X e (tE b me)) (hv : PE X (.Name x p) (tVar i)) (hm : behindInMarks .In (.Name x p) = false) : PE X (.Compare e [.In] [.Name x p] pos) (tE b (ePkIn me i)) ∧ PT X (.Compare e [.In] [.Name x p] pos) (tT b (ePkIn me i)) := by
  have key : ∀ σ H Q, tE b (ePkIn me i) σ H Q → tOp (rInK b) (tE b me) (tVar i) σ H Q := fun σ H Q ⟨F, G, S, d, S', ee, rel, k⟩ => by
    unfold ePkIn at ee
    cases hm : me S with
    | no =>
      rw [hm] at ee
      cases ee
    | go y S1 =>
      rw [hm] at ee
      dsimp only at ee
      refine ⟨F, G, S, y, S1, hm, rel, fun F1 u H1 s1 r1 h1 => ?_⟩
      split at ee
      · rename_i ks vs hg
        obtain ⟨a, es, e1, e2, e3, e4, _⟩ := slot_dv r1 hg
        refine ⟨_, e1, ?_⟩
        cases hf : dFind y ks vs with
        | none =>
          rw [hf] at ee
          cases ee
        | some r =>
          rw [hf] at ee
          refine ⟨F1, ks, vs, y, r, r1.base.sameF, ⟨a, es, rfl, .inl e2, e3, e4⟩, h1, hf, ?_⟩
          cases r with
          | none =>
            cases ee
            exact k F1 _ H1 s1 r1 Rep.bl'
          | some v =>
            cases ee
            exact k F1 _ H1 s1 r1 Rep.bl'
      · cases ee
  exact ⟨(pe_cmpR (op_inK ok) he hv hm).weak key, (pt_cmpR (op_inK ok) he hv hm).weak fun σ H Q q => key σ H _ (tT_tE q)⟩
/-- name.get(k, v) -/
theorem r_pkGet {i : Nat} {x : PySem.Str} {p : Pos} (ok : Okb b X) (hv : PE X (.Name x p) (tVar i)) (he : PE X e (tE b me)) (hf : PE X f (tE b mf)) (m : M2 X (.Name x p) "get" apos e f cpos) : PE X (.Call (.Attribute (.Name x p) "get" apos) [e, f] [] cpos) (tE b (ePkGet i me mf)) := (pe_getT ok hv he hf m).weak fun σ H Q ⟨F, G, S, d, S', ee, rel, k⟩ => by
  unfold ePkGet pkD at ee
  split at ee
  · rename_i hl
    dsimp only at ee
    obtain ⟨ks0, vs0, hg0⟩ := isDv_of hl
    obtain ⟨a, es0, ha, hd0, _⟩ := slot_dv rel hg0
    refine ⟨_, ha, ⟨a, es0, rfl, .inl hd0⟩, ?_⟩
    cases hm : me S with
    | no =>
      rw [hm] at ee
      cases ee
    | go y S1 =>
      rw [hm] at ee
      dsimp only at ee
      cases hq : mf S1 with
      | no =>
        rw [hq] at ee
        cases ee
      | go z S2 =>
        rw [hq] at ee
        dsimp only at ee
        refine ⟨F, G, S, y, S1, hm, rel, fun F1 u H1 s1 r1 h1 => ⟨F1, G, S1, z, S2, hq, r1, fun F2 w H2 s2 r2 h2 => ?_⟩⟩
        split at ee
        · rename_i ks vs hg
          obtain ⟨a', es, e1, e2, e3, e4, _⟩ := slot_dv r2 hg
          rw [ha] at e1
          cases e1
          cases hfd : dFind y ks vs with
          | none =>
            unfold oGet at ee
            simp only [hfd] at ee
            cases ee
          | some r =>
            refine ⟨F2, ks, vs, y, r, r2.base.sameF, ⟨a, es, rfl, .inl e2, e3, e4⟩, Rep.mono s2 y h1, hfd, fun e0 => ?_, fun v e0 w' hw => ?_⟩
            · subst e0
              unfold oGet at ee
              simp only [hfd] at ee
              cases ee
              exact k F2 w H2 (s1.trans s2) r2 h2
            · subst e0
              unfold oGet at ee
              simp only [hfd] at ee
              cases ee
              exact k F2 w' H2 (s1.trans s2) r2 hw
        · cases ee
  · cases ee
/-- name.setdefault(k, v) -/
def tSdT (b : Bd) (td ty tx : TE) : TE := fun σ H Q => td σ H fun x H1 => IsDic H1 x ∧ ty σ H1 fun y H2 => tx σ H2 fun z H3 => ∃ F ks vs a es k r, x = .ref a ∧ Same F H3 ∧ H3 a = some (dicO a es) ∧ KeyR b F ks es ∧ RepL b F vs (es.map (·.2.2)) ∧ Rep b F k y ∧ dFind k ks vs = some r ∧
  (∀ v, r = some v → ∀ w, Rep b F v w → Q w H3) ∧ (r = none → ∃ v ks' vs', Rep b F v z ∧ dSet k v ks vs = some (ks', vs') ∧ ∀ es', KeyR b F ks' es' → RepL b F vs' (es'.map (·.2.2)) → Q z (upd H3 a (dicO a es')))
theorem pe_sdT (ok : Okb b X) (ho : PE X o td) (he : PE X e ty) (hf : PE X f tx) (m : M2 X o "setdefault" apos e f cpos) : PE X (.Call (.Attribute o "setdefault" apos) [e, f] [] cpos) (tSdT b td ty tx) := by
  refine ⟨fun pins s σ H Q I h => ?_⟩
  refine wpAny_Call_method m.base m.few m.line PySem.F.plainAttrs_dict PySem.F.slot_dict_setdefault PySem.F.type_dict_setdefault (thn (ho.run pins s σ H _ I h) fun u s1 ⟨x, H1, I1, rx, d, q1⟩ => ?_)
  obtain ⟨t1, t2⟩ := isDic_at I1 d rx
  refine ⟨t1, t2, ?_⟩
  rw [m.trees]
  refine Calls.callWith_builtin rfl (Calls.evalArgs_plain (Calls.spliced_cons (thn (he.run pins s1 σ H1 _ I1 q1) fun iv s2 ⟨y, H2, I2, ry, q2⟩ =>
    Calls.spliced_cons (thn (hf.run pins s2 σ H2 _ I2 q2) fun fv s3 ⟨z, H3, I3, rz, F, ks, vs, a, es, k, r, ex, sm, ha, kr, rl, hy, hfd, q3, q4⟩ => Calls.spliced_nil ?_))))
  subst ex
  obtain rfl : u = Value.ref a := rx
  obtain ⟨k1, k2, hg⟩ := find_of hfd
  obtain ⟨c, rfl⟩ := rep_tup k2 hy
  obtain rfl : iv = Value.ref c := ry
  obtain ⟨p1, p2, us, rv, l1, l2, dd⟩ := rows_of ok I3 sm (.inl ha) kr
  have lk := look_rows k1 hg kr.2.2.1 rl rv l1
  refine call_setdefault_heap (knd := treeK X.prog X.w) (hsz := by rw [rowsD_len l1 l2, l1]; exact p2) (room_of ok) ⟨k1, k2, rep_at ok I3 sm k hy rfl⟩ p1 dd (fun p hp => ?_) fun hn h' dd' hs => ?_
  · cases r with
    | none =>
      have z : atKey (rowsD ks es us) k = none := lk
      rw [z] at hp
      cases hp
    | some v =>
      obtain ⟨p', w, e1, e2, e3⟩ := lk
      rw [e1] at hp
      cases hp
      exact ⟨w, H3, I3.tok _, e2, q3 v rfl w e3⟩
  · cases r with
    | some v =>
      obtain ⟨p', w, e1, _⟩ := lk
      rw [e1] at hn
      cases hn
    | none =>
      obtain ⟨v, ks', vs', hz, hd, q5⟩ := q4 rfl
      unfold dSet at hd
      split at hd
      · rename_i hk
        rw [Bool.and_eq_true] at hk
        have few := few_le hk.1
        rw [storedX (by rw [rowsD_keys l1 l2]; exact kr.2.2.2)] at dd'
        obtain ⟨es', us', e1, e2, e3, e4, e5, _⟩ := put_rows (r := fv) k1 hy rz hz hd kr rl rv
        rw [e1] at dd'
        have hl : es'.length ≤ sizeLine := by
          have : es.length ≤ 100000 := by rw [← l1]; exact few
          have := line_lt (n := 100001) (Nat.le_refl _)
          omega
        have he : ∃ o, h'.get? a = some o := let ⟨o, _, _, z, _⟩ := dd'; ⟨o, z⟩
        exact ⟨z, _, I3.write (x := a) (e := a) (by rw [ha]; exact True.intro) (.inl rfl) (fun c o hc e => (hs.2 c hc).trans e) he (dic_put e2 ok.w e4 p1 hl dd'), rz, q5 es' e2 e3⟩
      · cases hd
theorem r_pkSd {i : Nat} {x : PySem.Str} {p : Pos} (ok : Okb b X) (hv : PE X (.Name x p) (tVar i)) (he : PE X e (tE b me)) (hf : PE X f (tE b mf)) (m : M2 X (.Name x p) "setdefault" apos e f cpos) : PE X (.Call (.Attribute (.Name x p) "setdefault" apos) [e, f] [] cpos) (tE b (ePkSd i me mf)) := (pe_sdT ok hv he hf m).weak fun σ H Q ⟨F, G, S, d, S', ee, rel, k⟩ => by
  unfold ePkSd pkD at ee
  split at ee
  · rename_i hl
    dsimp only at ee
    obtain ⟨ks0, vs0, hg0⟩ := isDv_of hl
    obtain ⟨a, es0, ha, hd0, _⟩ := slot_dv rel hg0
    refine ⟨_, ha, ⟨a, es0, rfl, .inl hd0⟩, ?_⟩
    cases hm : me S with
    | no =>
      rw [hm] at ee
      cases ee
    | go y S1 =>
      rw [hm] at ee
      dsimp only at ee
      cases hq : mf S1 with
      | no =>
        rw [hq] at ee
        cases ee
      | go z S2 =>
        rw [hq] at ee
        dsimp only at ee
        refine ⟨F, G, S, y, S1, hm, rel, fun F1 u H1 s1 r1 h1 => ⟨F1, G, S1, z, S2, hq, r1, fun F2 w H2 s2 r2 h2 => ?_⟩⟩
        split at ee
        · rename_i ks vs hg
          obtain ⟨a', es, e1, e2, e3, e4, e5, e6, e7⟩ := slot_dv r2 hg
          rw [ha] at e1
          cases e1
          cases hfd : dFind y ks vs with
          | none =>
            rw [hfd] at ee
            cases ee
          | some r =>
            rw [hfd] at ee
            refine ⟨F2, ks, vs, a, es, y, r, rfl, r2.base.sameF, e2, e3, e4, Rep.mono s2 y h1, hfd, fun v e0 w' hw => ?_, fun e0 => ?_⟩
            · subst e0
              cases ee
              exact k F2 w' H2 (s1.trans s2) r2 hw
            · subst e0
              dsimp only at ee
              cases hd : dSet y z ks vs with
              | none =>
                rw [hd] at ee
                cases ee
              | some pr =>
                obtain ⟨ks', vs'⟩ := pr
                rw [hd] at ee
                cases ee
                exact ⟨_, ks', vs', h2, hd, fun es' kr rl => k F2 w _ (s1.trans s2) (r2.dput hg ha kr rl e2 e6 e7) h2⟩
        · cases ee
  · cases ee
end
end Tee
set_option maxRecDepth 100000
set_option maxHeartbeats 4000000
/-! Calls; statements. -/
namespace Tee
open PySem PySem.Spec PyProof.Rows L2
/-! ### the same trees in another frame -/
structure Bd.Eqv (b c : Bd) : Prop where
  K : b.K = c.K
  w : b.w = c.w
  fa : b.fa = c.fa
  CR : b.CR = c.CR
mutual
theorem Rep.cv {b c : Bd} (q : b.Eqv c) {F : Hp} : ∀ (d : D) {v : V}, Rep b F d v → Rep c F d v
  | .non, _, h => by rw [Rep] at h ⊢; exact h
  | .bl _, _, h => by rw [Rep] at h ⊢; exact h
  | .int _, _, h => by rw [Rep] at h ⊢; exact h
  | .sym _, _, h => by rw [Rep] at h ⊢; exact h
  | .fn _, _, h => by rw [Rep] at h ⊢; rw [← q.fa]; exact h
  | .tup l, _, h => by
    rw [Rep] at h ⊢
    obtain ⟨a, vs, e, q1, r⟩ := h
    exact ⟨a, vs, e, q.K ▸ q1, RepL.cv q l r⟩
  | .lst l, _, h => by
    rw [Rep] at h ⊢
    obtain ⟨a, vs, e, q1, r⟩ := h
    exact ⟨a, vs, e, q1, RepL.cv q l r⟩
  | .dct ks us, _, h => by
    rw [Rep] at h ⊢
    obtain ⟨a, o, es, e, q1, ⟨r1, r2⟩, r3⟩ := h
    exact ⟨a, o, es, e, q1, ⟨RepL.cv q ks r1, q.w ▸ r2⟩, RepL.cv q us r3⟩
  | .ins l, _, h => by
    rw [Rep] at h ⊢
    obtain ⟨a, dx, fs, e, q1, r1, r2, r3⟩ := h
    exact ⟨a, dx, fs, e, q.CR ▸ q1, r1, r2, RepL.cv q l r3⟩
theorem RepL.cv {b c : Bd} (q : b.Eqv c) {F : Hp} : ∀ (l : List D) {vs : List V}, RepL b F l vs → RepL c F l vs
  | [], _, h => by rw [RepL] at h ⊢; exact h
  | d :: l, _, h => by
    rw [RepL] at h ⊢
    obtain ⟨v, r, e, h1, h2⟩ := h
    exact ⟨v, r, e, Rep.cv q d h1, RepL.cv q l h2⟩
end
theorem Bd.Eqv.symm {b c : Bd} (q : b.Eqv c) : c.Eqv b := ⟨q.K.symm, q.w.symm, q.fa.symm, q.CR.symm⟩
/-- what a def promises: of n trees it makes the tree that g tells -/
def spF (c : Bd) (n : Nat) (g : List D → Option D) : Sp := fun vs H Q _ => vs.length = n ∧ ∃ F ds d, g ds = some d ∧ Same F H ∧ RepL c F ds vs ∧
  ∀ F' v H', Same H H' → Same F F' → (∀ a, F' a ≠ none → F a ≠ none ∨ H a = none) → Same F' H' → Rep c F' d v → Q v H'
theorem spF_len {c : Bd} {n : Nat} {g : List D → Option D} : ∀ vs H Q E, spF c n g vs H Q E → vs.length = n := fun _ _ _ _ h => h.1
section
variable {X : Cx} {b c : Bd} {F H : Hp} {G : Gh} {S : Ss} {σ : Sg}
variable {e o f : Expr} {es : List Expr} {l : L} {me mo mf : M} {pos pos' apos cpos : Pos}
theorem call_w (q : b.Eqv c) {n : Nat} {g : List D → Option D} (hn : ∀ ds d, g ds = some d → ds.length = n) {Q : VK} {E : XK} : tE b (eCall g l) σ H Q → tA b l σ H fun vs H1 => spF c n g vs H1 Q E := fun ⟨F, G, S, d, S', e, rel, k⟩ => by
  unfold eCall at e
  cases hm : l S with
  | no =>
    rw [hm] at e
    cases e
  | go ds S1 =>
    rw [hm] at e
    dsimp only at e
    cases hg : g ds with
    | none =>
      rw [hg] at e
      cases e
    | some z =>
      rw [hg] at e
      cases e
      refine ⟨F, G, S, ds, _, hm, rel, fun F1 vs H1 s1 r1 h1 => ⟨?_, F1, ds, _, hg, r1.base.sameF, RepL.cv q ds h1, fun F2 v H2 sH sF nw sFH hv => k F2 v H2 (s1.trans sF) (r1.grow sF sH sFH nw) (Rep.cv q.symm _ hv)⟩⟩
      rw [← h1.len]
      exact hn ds _ hg
theorem nil_sp {sp : Sp} {Q : VK} {E : XK} {t : TA} (h : t σ H fun vs H1 => sp vs H1 Q E) : tCall sp [] E t σ H Q := by
  show t σ H fun vs H1 => sp (vs ++ []) H1 Q E
  have e : (fun (vs : List V) (H1 : Hp) => sp (vs ++ []) H1 Q E) = fun vs H1 => sp vs H1 Q E := by
    funext vs H1
    rw [List.append_nil]
  rw [e]
  exact h
/-- f(..) -/
theorem r_call {x : PySem.Str} {p : Pos} {k : Nat} {fa : Addr} {fd : FuncData} {ps : List PySem.Str} {g : List D → Option D} (q : b.Eqv c) (Fo : FnOk X.prog X.w X.K X.mg X.base CX0 k fa fd ps (spF c ps.length g)) (hn : ∀ ds d, g ds = some d → ds.length = ps.length) (hr : Room k X.A) (hg : Gl X x)
    (hm : X.mg x = some (.ref fa)) (hk : PySem.W.keepIn X.K (.ref fa) = true) (hb : Binds X.K fd ps []) (ha : PA X (e :: es) (tA b l)) (hdb : (x == ("__debug__" : PySem.Str)) = false) (h1 : starEach (e :: es) X.env = (false, eval e X.env) :: starEach es X.env) (h2 : (backTo pos (starEach es X.env)).any (·.1) = false) :
    PE X (.Call (.Name x p) (e :: es) [] pos) (tE b (eCall g l)) := (pe_call Fo hr hg hm hk hb .nil pass0 ha hdb h1 h2).weak fun σ H Q h => nil_sp (call_w q hn h)
/-- f(..), f a slot's def -/
theorem r_callV {x : PySem.Str} {p : Pos} {k i n : Nat} {tb : Nat → List D → Option D} (q : b.Eqv c) (hn : ∀ j ds d, tb j ds = some d → j < 2 ∧ ds.length = n)
    (Fo : ∀ j, j < 2 → ∃ fd ps, ps.length = n ∧ FnOk X.prog X.w X.K X.mg X.base CX0 k (b.fa j) fd ps (spF c n (tb j)) ∧ PySem.W.keepIn X.K (.ref (b.fa j)) = true ∧ Binds X.K fd ps []) (hr : Room k X.A) (hN : X.N[i]? = some x) (hv : Vis X.env.scope x) (ha : PA X (e :: es) (tA b l))
    (hdb : (x == ("__debug__" : PySem.Str)) = false) (hcd : (x == ("__classdict__" : PySem.Str)) = false) (h1 : starEach (e :: es) X.env = (false, eval e X.env) :: starEach es X.env) (h2 : (backTo pos (starEach es X.env)).any (·.1) = false) :
    PE X (.Call (.Name x p) (e :: es) [] pos) (tE b (eCallV tb i l)) := by
  refine ⟨fun pins s σ H Q I ⟨F, G, S, d, S', ee, rel, kk⟩ => ?_⟩
  unfold eCallV at ee
  split at ee
  · rename_i j hgs
    have hs := rel.slots i
    rw [hgs] at hs
    obtain ⟨v, e1, e2⟩ := hs
    rw [Rep] at e2
    subst e2
    have h : tE b (eCall (tb j) l) σ H Q := ⟨F, G, S, d, S', ee, rel, kk⟩
    have hj : j < 2 := by
      cases hm : l S with
      | no =>
        rw [hm] at ee
        cases ee
      | go ds S1 =>
        rw [hm] at ee
        dsimp only at ee
        cases hg : tb j ds with
        | none =>
          rw [hg] at ee
          cases ee
        | some z => exact (hn j ds z hg).1
    obtain ⟨fd, ps, hl, Fj, kj, bj⟩ := Fo j hj
    refine (pe_callL (i := i) (f := b.fa j) (dvs := []) (E := E0) Fj hr hN hv kj bj .nil pass0 ha hdb hcd h1 h2).run pins s σ H Q I ⟨e1, ?_⟩
    exact nil_sp (call_w q (fun ds d hd => (hn j ds d hd).2) h)
  · cases ee
theorem four_no {fs : List (PySem.Str × V)} (h : fs.map (·.1) = fields4) {m : PySem.Str} (hm : m ∉ fields4) : fs.lookup m = none := by
  have : ∀ fs : List (PySem.Str × V), m ∉ fs.map (·.1) → fs.lookup m = none := by
    intro fs
    induction fs with
    | nil => intro _; rfl
    | cons p fs ih =>
      intro hn
      rw [List.map_cons, List.mem_cons, not_or] at hn
      have hb : (m == p.1) = false := beq_eq_false_iff_ne.mpr hn.1
      rw [List.lookup, hb]
      exact ih hn.2
  exact this fs (by rw [h]; exact hm)
theorem ins_of {l : List D} {v : V} (r : Rel b F G S σ H) (h : Rep b F (.ins l) v) : ∃ a dx fs, v = .ref a ∧ H a = some (.ins b.CR dx fs) ∧ fs.map (·.1) = fields4 := by
  rw [Rep] at h
  obtain ⟨a, dx, fs, e, h1, _, h2, _⟩ := h
  exact ⟨a, dx, fs, e, r.base.sameF _ _ h1, h2⟩
/-- o.m(..), o a Rules -/
def isIns : D → Bool
  | .ins _ => true
  | _ => false
theorem meth_w (q : b.Eqv c) {n : Nat} {g : List D → Option D} {m : PySem.Str} (hm4 : m ∉ fields4) (hn : ∀ ds d, g ds = some d → ds.length = n ∧ ∃ x r, ds = x :: r ∧ isIns x = true) {Q : VK} {E : XK} : tE b (eCall g (aC mo l)) σ H Q → tMeth b.CR m (spF c n g) [] E (tE b mo) (tA b l) σ H Q := fun ⟨F, G, S, d, S', e, rel, k⟩ => by
  unfold eCall aC at e
  cases hm : mo S with
  | no =>
    rw [hm] at e
    cases e
  | go x S1 =>
    rw [hm] at e
    dsimp only at e
    cases hl : l S1 with
    | no =>
      rw [hl] at e
      cases e
    | go ds S2 =>
      rw [hl] at e
      dsimp only at e
      cases hg : g (x :: ds) with
      | none =>
        rw [hg] at e
        cases e
      | some z =>
        rw [hg] at e
        cases e
        obtain ⟨hlen, x', r', e0, hi⟩ := hn _ _ hg
        cases e0
        cases x <;> first | (cases hi; done) | skip
        rename_i il
        refine ⟨F, G, S, _, S1, hm, rel, fun F1 v H1 s1 r1 h1 => ?_⟩
        obtain ⟨a, dx, fs, rfl, e2, e3⟩ := ins_of r1 h1
        refine ⟨a, dx, fs, rfl, e2, four_no e3 hm4, F1, G, S1, ds, _, hl, r1, fun F2 vs H2 s2 r2 h2 => ?_⟩
        have h3 : RepL b F2 (.ins il :: ds) (V.ref a :: (vs ++ [])) := by
          rw [List.append_nil]
          exact RepL.cons' (Rep.mono s2 _ h1) h2
        refine ⟨?_, F2, _, _, hg, r2.base.sameF, RepL.cv q _ h3, fun F3 v3 H3 sH sF nw sFH hv => k F3 v3 H3 ((s1.trans s2).trans sF) (r2.grow sF sH sFH nw) (Rep.cv q.symm _ hv)⟩
        rw [← h3.len]
        exact hlen
theorem r_meth {pl : Sem Bool} {m : PySem.Str} {k : Nat} {fa : Addr} {fd : FuncData} {ps : List PySem.Str} {g : List D → Option D} (q : b.Eqv c) (ok : Okb b X) (cz : Clz b) (hm4 : m ∉ fields4) (Fo : FnOk X.prog X.w X.K X.mg X.base CX0 k fa fd ps (spF c ps.length g)) (hn : ∀ ds d, g ds = some d → ds.length = ps.length ∧ ∃ x r, ds = x :: r ∧ isIns x = true)
    (hr : Room k X.A) (ho : PE X o (tE b mo)) (hm : Meth X.K b.CR m fa) (hb : Binds X.K fd ps []) (ha : PA X (e :: es) (tA b l)) (h1 : starEach (e :: es) X.env = (false, eval e X.env) :: starEach es X.env) (h2 : (backTo pos (starEach es X.env)).any (·.1) = false)
    (ht : eval (.Call (.Attribute o m apos) (e :: es) [] pos) X.env = (do
      let ov ← eval o X.env
      standAt apos.atName
      let (f, first) ← holding [ov] (getMethod ov m pl)
      callWith pos f first (backTo pos (starEach (e :: es) X.env)) (backToKw pos (keywordEach [] X.env)))) : PE X (.Call (.Attribute o m apos) (e :: es) [] pos) (tE b (eCall g (aC mo l))) :=
  (pe_meth ho (ok.K ▸ cz.cl) hm Fo hr hb .nil pass0 ha h1 h2 ht).weak fun σ H Q h => meth_w q hm4 hn h
theorem r_meth0 {pl : Sem Bool} {m : PySem.Str} {k : Nat} {fa : Addr} {fd : FuncData} {ps : List PySem.Str} {g : List D → Option D} (q : b.Eqv c) (ok : Okb b X) (cz : Clz b) (hm4 : m ∉ fields4) (Fo : FnOk X.prog X.w X.K X.mg X.base CX0 k fa fd ps (spF c ps.length g)) (hn : ∀ ds d, g ds = some d → ds.length = ps.length ∧ ∃ x r, ds = x :: r ∧ isIns x = true)
    (hr : Room k X.A) (ho : PE X o (tE b mo)) (hm : Meth X.K b.CR m fa) (hb : Binds X.K fd ps [])
    (ht : eval (.Call (.Attribute o m apos) [] [] pos) X.env = (do
      let ov ← eval o X.env
      standAt apos.atName
      let (f, first) ← holding [ov] (getMethod ov m pl)
      callWith pos f first (backTo pos (starEach [] X.env)) (backToKw pos (keywordEach [] X.env)))) : PE X (.Call (.Attribute o m apos) [] [] pos) (tE b (eCall g (aC mo aN))) :=
  (pe_meth0 ho (ok.K ▸ cz.cl) hm Fo hr hb .nil pass0 ht).weak fun σ H Q h => by
    obtain ⟨F, G, S, d, S', e1, rel, k⟩ := meth_w (E := E0) q hm4 hn h
    exact ⟨F, G, S, d, S', e1, rel, fun F1 v H1 s1 r1 h1 => by
      obtain ⟨a, dx, fs, e2, e3, e4, F2, G2, S2, l2, S3, e5, r5, k5⟩ := k F1 v H1 s1 r1 h1
      cases e5
      exact ⟨a, dx, fs, e2, e3, e4, k5 F2 [] H1 (Same.refl F2) r5 RepL.nil'⟩⟩
end
end Tee
set_option maxRecDepth 100000
set_option maxHeartbeats 4000000
/-! Statements. -/
namespace Tee
open PySem PySem.Spec PyProof.Rows L2
section
variable {X : Cx} {b : Bd} {W : Sg → Hp → Prop} {F F1 H : Hp} {G : Gh} {S : Ss} {σ : Sg} {D1 D2 : Ends}
theorem After.up {o : Sr} (h : After b W D1 F G o) (s : Same F F1) : After b W D1 F1 G o := by
  cases o with
  | no => exact h
  | nx S => exact fun F' σ' H' s' r => h F' σ' H' (s.trans s') r
  | bk S => exact fun F' σ' H' s' r => h F' σ' H' (s.trans s') r
  | ct S => exact fun F' σ' H' s' r => h F' σ' H' (s.trans s') r
  | rt d => exact fun F' v H' s' r q => h F' v H' (s.trans s') r q
  | ex => exact fun F' σ' H' s' r => h F' σ' H' (s.trans s') r
theorem seq_w {m n : B} : tS b W (sQ m n) D1 σ H → tSeq (tS b W m) (tS b W n) D1 σ H := fun ⟨F, G, S, rel, h⟩ => by
  refine ⟨F, G, S, rel, ?_⟩
  unfold sQ at h
  cases hm : m S with
  | no =>
    rw [hm] at h
    exact h
  | nx S1 =>
    rw [hm] at h
    exact fun F' σ' H' s r => ⟨F', G, S1, r, After.up h s⟩
  | bk S1 =>
    rw [hm] at h
    exact h
  | ct S1 =>
    rw [hm] at h
    exact h
  | rt d =>
    rw [hm] at h
    exact h
  | ex =>
    rw [hm] at h
    exact h
variable {st : Stmt} {rest : List Stmt} {m n : B} {e a c : Expr} {me ma mc : M} {pos pos' p : Pos}
theorem q_cons (h1 : PS X st (tS b W m)) (h2 : PSs X rest (tS b W n)) : PSs X (st :: rest) (tS b W (sQ m n)) := (pss_cons h1 h2).weak fun D σ H q => seq_w q
theorem q_one (h1 : PS X st (tS b W m)) : PSs X [st] (tS b W m) := pss_one h1
theorem q_nil : PSs X [] (tS b W sP) := pss_nil.weak fun D σ H ⟨F, G, S, rel, h⟩ => h F σ H (Same.refl F) rel
/-- a value is set -/
theorem set_w {i : Nat} : tS b W (sSet i me) D1 σ H → tAsg (tE b me) (gName i) D1 σ H := fun ⟨F, G, S, rel, h⟩ => by
  unfold sSet at h
  cases hm : me S with
  | no =>
    rw [hm] at h
    exact h.elim
  | go d S1 =>
    rw [hm] at h
    exact ⟨F, G, S, d, S1, hm, rel, fun F1 v H1 s1 r1 h1 => h F1 _ H1 s1 (r1.setVal h1)⟩
theorem q_set {i : Nat} {x : PySem.Str} (hN : X.N.Nodup) (hi : X.N[i]? = some x) (hx : Loc X.env.scope x) (he : PE X e (tE b me)) (hs : swapsWith e (some (.Name x pos')) pos.line X.env = pure false) (hf : X.fn x = true ∨ X.env.scope.names.lookup x = some .local) : PS X (.Assign [.Name x pos'] e pos) (tS b W (sSet i me)) :=
  (ps_set hN hi hx he hs hf).weak fun D σ H q => set_w q
theorem q_ret (he : PE X e (tE b me)) : PS X (.Return (some e) pos) (tS b W (sRet me)) := (ps_ret he).weak fun D σ H ⟨F, G, S, rel, h⟩ => by
  unfold sRet at h
  cases hm : me S with
  | no =>
    rw [hm] at h
    exact h.elim
  | go d S1 =>
    rw [hm] at h
    exact ⟨F, G, S, d, S1, hm, rel, fun F1 v H1 s1 r1 h1 => h F1 v H1 s1 r1.base h1⟩
theorem q_if {u t : List Stmt} (hc : PT X c (tT b mc)) (h1 : PSs X u (tS b W m)) (h2 : PSs X t (tS b W n)) : PS X (.If c u t pos) (tS b W (sIf mc m n)) := (ps_if hc h1 h2).weak fun D σ H ⟨F, G, S, rel, h⟩ => by
  unfold sIf at h
  split at h
  · rename_i S1 hm
    refine ⟨F, G, S, true, S1, hm, rel, fun F1 H1 s1 r1 => ?_⟩
    exact iteT ⟨F1, G, S1, r1, h.up s1⟩
  · rename_i S1 hm
    refine ⟨F, G, S, false, S1, hm, rel, fun F1 H1 s1 r1 => ?_⟩
    exact iteF ⟨F1, G, S1, r1, h.up s1⟩
  · exact h.elim
theorem q_break : PS X (.Break pos) (tS b W sBk) := ps_break.weak fun D σ H ⟨F, G, S, rel, h⟩ => h F σ H (Same.refl F) rel
theorem q_cont : PS X (.Continue pos) (tS b W sCt) := ps_continue.weak fun D σ H ⟨F, G, S, rel, h⟩ => h F σ H (Same.refl F) rel
/-- name op= e -/
theorem q_aug {i : Nat} {x : PySem.Str} {op : Operator} {r : TIp} {g : D → D → Option D} (hN : X.N.Nodup) (hi : X.N[i]? = some x) (hx : Loc X.env.scope x) (he : PE X e (tE b me)) (ho : PIp X op r) (hr : Val2 b g r) (hf : X.fn x = true ∨ X.env.scope.names.lookup x = some .local) :
    PS X (.AugAssign (.Name x pos') op e pos) (tS b W (sAug i g me)) := (ps_aug hN hi hx he ho hf).weak fun D σ H ⟨F, G, S, rel, h⟩ => by
  unfold sAug at h
  cases hg : gets S i with
  | val x =>
    rw [hg] at h
    dsimp only at h
    have q := rel.slots i
    rw [hg] at q
    obtain ⟨v, e1, e2⟩ := q
    refine ⟨v, e1, ?_⟩
    cases hm : me S with
    | no =>
      rw [hm] at h
      exact h.elim
    | go y S1 =>
      rw [hm] at h
      dsimp only at h
      cases hz : g x y with
      | none =>
        rw [hz] at h
        exact h.elim
      | some z =>
        rw [hz] at h
        refine ⟨F, G, S, y, S1, hm, rel, fun F1 u H1 s1 r1 h1 => ?_⟩
        exact hr F1 G S1 σ H1 x y v u z _ hz r1 (Rep.mono s1 x e2) h1 fun F2 w H2 s2 r2 h2 => h F2 _ H2 (s1.trans s2) (r2.setVal h2)
  | no =>
    rw [hg] at h
    exact h.elim
  | lv l =>
    rw [hg] at h
    exact h.elim
  | dv k u =>
    rw [hg] at h
    exact h.elim
  | iv l =>
    rw [hg] at h
    exact h.elim
theorem v_addI : Val2 b oAddI (ipI fun i j => i + j) := fun F G S σ H d e v u z Q h r hv hu k => by
  cases d <;> first | (cases h; done) | skip
  cases e <;> first | (cases h; done) | skip
  rename_i i j
  have h' : oint (i + j) = some z := h
  rw [oint_eq] at h'
  obtain rfl := Option.some.inj h'
  exact ⟨i, j, int_of hv, int_of hu, k.now r Rep.int'⟩
theorem v_subI : Val2 b oSub (ipI fun i j => i - j) := fun F G S σ H d e v u z Q h r hv hu k => by
  obtain ⟨i, j, e1, e2, q⟩ := v_sub F G S σ H d e v u z Q h r hv hu k
  exact ⟨i, j, e1, e2, q⟩
/-! ### lists that grow -/
theorem mtm {id : String} {r : V → List V → Hp → VK → Prop} (h : MtM X id r) : MtR X id r := h
theorem q_app {i : Nat} {x : PySem.Str} {apos cpos : Pos} (hv : PE X (.Name x p) (tVar i)) (he : PE X e (tE b me)) (h1 : attributeBase (.Name x p) "append" X.env (eval (.Name x p) X.env) = eval (.Name x p) X.env)
    (h2 : ((backTo cpos (starEach [e] X.env)).all (fun x => !x.1) && (backToKw cpos (keywordEach [] X.env)).all (fun x => x.1.isSome) && decide (([e] : List Expr).length + ([] : List Keyword).length + (if ([] : List Keyword).isEmpty then 0 else 1) < 30)) = true)
    (h3 : (apos.endLine == cpos.line) = true) (h4 : starEach [e] X.env = (false, eval e X.env) :: starEach [] X.env) (h5 : (backTo cpos (starEach [] X.env)).any (·.1) = false) (hs : swapsWith (.Call (.Attribute (.Name x p) "append" apos) [e] [] cpos) none pos.line X.env = pure false) :
    PS X (.Expr (.Call (.Attribute (.Name x p) "append" apos) [e] [] cpos) pos) (tS b W (sApp i me)) :=
  (ps_expr (pe_bm PySem.F.plainAttrs_list PySem.F.slot_list_append PySem.F.type_list_append (mtm mt_append) hv (pa_cons he pa_nil h4) h1 h2 h3 h4 h5) hs).weak fun D σ H ⟨F, G, S, rel, h⟩ => by
    unfold sApp pkL at h
    split at h
    · rename_i hl
      obtain ⟨l0, hg0⟩ := isLv_of hl
      obtain ⟨a, vs0, ha, hd0, _⟩ := slot_lv rel hg0
      refine ⟨_, ha, .inl ⟨rfl, _, SqL.of hd0⟩, ?_⟩
      dsimp only at h
      cases hm : me S with
      | no =>
        rw [hm] at h
        exact h.elim
      | go y S1 =>
        rw [hm] at h
        dsimp only at h
        refine ⟨F, G, S, y, S1, hm, rel, fun F1 u H1 s1 r1 h1 => ?_⟩
        split at h
        · rename_i l hg
          obtain ⟨a', vs, e1, e2, e3, e4, e5, e6⟩ := slot_lv r1 hg
          rw [ha] at e1
          cases e1
          cases hf : fit (l ++ [y]) with
          | none =>
            rw [hf] at h
            exact h.elim
          | some l' =>
            rw [hf] at h
            unfold fit at hf
            split at hf
            · rename_i hfew
              cases hf
              have hlen := few_le hfew
              rw [List.length_append, List.length_singleton, e3.len] at hlen
              have rl := e3.app (RepL.cons' h1 RepL.nil')
              exact ⟨a, vs, u, rfl, rfl, e2, line_lt (by omega), h F1 _ _ s1 (r1.lput hg ha rl e2 e5 e6)⟩
            · cases hf
        · exact h.elim
    · exact h.elim
theorem q_ext {i : Nat} {x : PySem.Str} {apos cpos : Pos} (hv : PE X (.Name x p) (tVar i)) (he : PE X e (tE b me)) (h1 : attributeBase (.Name x p) "extend" X.env (eval (.Name x p) X.env) = eval (.Name x p) X.env)
    (h2 : ((backTo cpos (starEach [e] X.env)).all (fun x => !x.1) && (backToKw cpos (keywordEach [] X.env)).all (fun x => x.1.isSome) && decide (([e] : List Expr).length + ([] : List Keyword).length + (if ([] : List Keyword).isEmpty then 0 else 1) < 30)) = true)
    (h3 : (apos.endLine == cpos.line) = true) (h4 : starEach [e] X.env = (false, eval e X.env) :: starEach [] X.env) (h5 : (backTo cpos (starEach [] X.env)).any (·.1) = false) (hs : swapsWith (.Call (.Attribute (.Name x p) "extend" apos) [e] [] cpos) none pos.line X.env = pure false) :
    PS X (.Expr (.Call (.Attribute (.Name x p) "extend" apos) [e] [] cpos) pos) (tS b W (sExt i me)) :=
  (ps_expr (pe_bm PySem.F.plainAttrs_list PySem.F.slot_list_extend PySem.F.type_list_extend (mtm mt_extend) hv (pa_cons he pa_nil h4) h1 h2 h3 h4 h5) hs).weak fun D σ H ⟨F, G, S, rel, h⟩ => by
    unfold sExt pkL at h
    split at h
    · rename_i hl
      obtain ⟨l0, hg0⟩ := isLv_of hl
      obtain ⟨a, vs0, ha, hd0, _⟩ := slot_lv rel hg0
      refine ⟨_, ha, .inl ⟨rfl, _, SqL.of hd0⟩, ?_⟩
      dsimp only at h
      split at h
      · rename_i ys S1 hm
        refine ⟨F, G, S, _, S1, hm, rel, fun F1 u H1 s1 r1 h1 => ?_⟩
        obtain ⟨p, us, rfl, g1, g2⟩ := lst_of h1
        split at h
        · rename_i l hg
          obtain ⟨a', vs, e1, e2, e3, e4, e5, e6⟩ := slot_lv r1 hg
          rw [ha] at e1
          cases e1
          cases hf : fit (l ++ ys) with
          | none =>
            rw [hf] at h
            exact h.elim
          | some l' =>
            rw [hf] at h
            unfold fit at hf
            split at hf
            · rename_i hfew
              cases hf
              have hlen := few_le hfew
              rw [List.length_append, e3.len, g2.len] at hlen
              exact ⟨a, p, vs, us, rfl, rfl, e2, r1.base.sameF _ _ g1, line_le hlen, h F1 _ _ s1 (r1.lput hg ha (e3.app g2) e2 e5 e6)⟩
            · cases hf
        · exact h.elim
      · exact h.elim
    · exact h.elim
/-- name = [..] -/
theorem q_newL {i : Nat} {x : PySem.Str} {es : List Expr} {l : L} {lpos : Pos} (hN : X.N.Nodup) (hi : X.N[i]? = some x) (hx : Loc X.env.scope x) (he : PA X es (tA b l)) (hs : swapsWith (.List es lpos) (some (.Name x pos')) pos.line X.env = pure false) (hf : X.fn x = true ∨ X.env.scope.names.lookup x = some .local) :
    PS X (.Assign [.Name x pos'] (.List es lpos) pos) (tS b W (sNewL i l)) := (ps_set hN hi hx (pe_lst he) hs hf).weak fun D σ H ⟨F, G, S, rel, h⟩ => by
  unfold sNewL at h
  cases hm : l S with
  | no =>
    rw [hm] at h
    exact h.elim
  | go ds S1 =>
    rw [hm] at h
    dsimp only at h
    cases hf : fit ds with
    | none =>
      rw [hf] at h
      exact h.elim
    | some l' =>
      rw [hf] at h
      unfold fit at hf
      split at hf
      · rename_i hfew
        cases hf
        refine ⟨F, G, S, ds, S1, hm, rel, fun F1 vs H1 s1 r1 h1 => ⟨by rw [← h1.len]; exact line_le (few_le hfew), fun q hq => ?_⟩⟩
        have r2 := r1.ghost (p := q) (o := .lst vs) hq fun a z => by cases z
        have nd : ∀ g ∈ G, g.1 ≠ q := fun g hg z => by
          have := (r1.base.gh g hg).1
          rw [z, hq] at this
          cases this
        have hF : F1 q = none := sameNone r1.base.sameF hq
        exact h F1 _ _ s1 (r2.settle nd ⟨q, vs, rfl, upd_same, hF, r1.base.sameH.free hq, h1⟩)
      · cases hf
/-- name = {} -/
theorem q_newD {i : Nat} {x : PySem.Str} {lpos : Pos} (hN : X.N.Nodup) (hi : X.N[i]? = some x) (hx : Loc X.env.scope x) (hs : swapsWith (.Dict [] [] lpos) (some (.Name x pos')) pos.line X.env = pure false) (hf : X.fn x = true ∨ X.env.scope.names.lookup x = some .local) :
    PS X (.Assign [.Name x pos'] (.Dict [] [] lpos) pos) (tS b W (sNewD i)) := (ps_set hN hi hx pe_newD hs hf).weak fun D σ H ⟨F, G, S, rel, h⟩ q hq => by
  have r2 := rel.ghost (p := q) (o := dicO q []) hq fun a z => by cases z
  have nd : ∀ g ∈ G, g.1 ≠ q := fun g hg z => by
    have := (rel.base.gh g hg).1
    rw [z, hq] at this
    cases this
  exact h F _ _ (Same.refl F) (r2.settle nd ⟨q, [], rfl, upd_same, sameNone rel.base.sameF hq, rel.base.sameH.free hq, key0, RepL.nil'⟩)
/-- name[k] = v -/
theorem blt_lt {n k : Nat} (h : Nat.blt n k = true) : n < k := by
  rw [nblt] at h
  exact of_decide_eq_true h
def tPutT (b : Bd) (tv td ty : TE) : TS := fun D σ H => tv σ H fun z H1 => td σ H1 fun x H2 => ty σ H2 fun y H3 => (∃ F ks vs a es k v ks' vs', x = .ref a ∧ Same F H3 ∧ H3 a = some (dicO a es) ∧ KeyR b F ks es ∧ RepL b F vs (es.map (·.2.2)) ∧ Rep b F k y ∧ Rep b F v z ∧ dSet k v ks vs = some (ks', vs') ∧
  ∀ es', KeyR b F ks' es' → RepL b F vs' (es'.map (·.2.2)) → D.nx σ (upd H3 a (dicO a es'))) ∨ rSetL x y z H3 fun H4 => D.nx σ H4
theorem ps_putT (ok : Okb b X) {o i v : Expr} {to ti tv : TE} {ipos : Pos} (ho : PE X o to) (hi : PE X i ti) (hv : PE X v tv) (hs : swapsWith v (some (.Subscript o i ipos)) pos.line X.env = pure false) : PS X (.Assign [.Subscript o i ipos] v pos) (tPutT b tv to ti) := by
  refine ⟨fun pins s σ H D I h => ?_⟩
  refine wpAny_Assign_Subscript (thn (hv.run pins s σ H _ I h) fun r s1 ⟨z, H1, I1, rz, q1⟩ => thn (ho.run pins s1 σ H1 _ I1 q1) fun u s2 ⟨x, H2, I2, rx, q2⟩ => thn (hi.run pins s2 σ H2 _ I2 q2) fun iv s3 ⟨y, H3, I3, ry, q3⟩ => ?_) hs
  rcases q3 with ⟨F, ks, vs, a, es, k, v, ks', vs', ex, sm, ha, kr, rl, hy, hz, hd, q⟩ | q
  · subst ex
    obtain rfl : u = Value.ref a := rx
    exact d_setT ok I3 sm ha kr rl hy ry hz rz hd fun es' s4 kr' rl' I4 => ⟨σ, _, I4, q es' kr' rl'⟩
  · exact thn (set_list pins s3 σ H3 x y z u iv r _ I3 rx ry rz q) fun _ s4 ⟨H4, I4, q4⟩ => ⟨σ, H4, I4, q4⟩
theorem q_put {i : Nat} {x : PySem.Str} {ipos : Pos} {v : Expr} {mv mk : M} (ok : Okb b X) (hx : PE X (.Name x p) (tVar i)) (hk : PE X e (tE b mk)) (hv : PE X v (tE b mv)) (hs : swapsWith v (some (.Subscript (.Name x p) e ipos)) pos.line X.env = pure false) :
    PS X (.Assign [.Subscript (.Name x p) e ipos] v pos) (tS b W (sPut i mk mv)) := (ps_putT ok hx hk hv hs).weak fun D σ H ⟨F, G, S, rel, h⟩ => by
  unfold sPut at h
  cases hm : mv S with
  | no =>
    rw [hm] at h
    exact h.elim
  | go y S1 =>
    rw [hm] at h
    dsimp only at h
    refine ⟨F, G, S, y, S1, hm, rel, fun F1 z H1 s1 r1 h1 => ?_⟩
    unfold sPutK pkS at h
    split at h
    · rename_i hl
      obtain ⟨a, ha⟩ := slot_ref r1 hl
      refine ⟨_, ha, ?_⟩
      dsimp only at h
      cases hk : mk S1 with
      | no =>
        rw [hk] at h
        exact h.elim
      | go k S2 =>
        rw [hk] at h
        dsimp only at h
        refine ⟨F1, G, S1, k, S2, hk, r1, fun F2 w H2 s2 r2 h2 => ?_⟩
        split at h
        · rename_i ks vs hg
          obtain ⟨a', es, e1, e2, e3, e4, e5, e6, e7⟩ := slot_dv r2 hg
          rw [ha] at e1
          cases e1
          cases hd : dSet k y ks vs with
          | none =>
            rw [hd] at h
            exact h.elim
          | some pr =>
            obtain ⟨ks', vs'⟩ := pr
            rw [hd] at h
            exact .inl ⟨F2, ks, vs, a, es, k, y, ks', vs', rfl, r2.base.sameF, e2, e3, e4, h2, Rep.mono s2 y h1, hd, fun es' kr rl => h F2 _ _ (s1.trans s2) (r2.dput hg ha kr rl e2 e6 e7)⟩
        · rename_i l hg
          obtain ⟨a', vs, e1, e2, e3, e4, e5, e6⟩ := slot_lv r2 hg
          rw [ha] at e1
          cases e1
          split at h
          · rename_i n
            split at h
            · rename_i hlt
              have hn := blt_lt hlt
              rw [e3.len] at hn
              refine .inr ⟨a, vs, n, n, rfl, int_of h2, e2, ?_, h F2 _ _ (s1.trans s2) (r2.lput hg ha (e3.set n (Rep.mono s2 y h1)) e2 e5 e6)⟩
              unfold ixN
              rw [if_pos (by omega), if_pos (by omega)]
              simp
            · exact h.elim
          · exact h.elim
        · exact h.elim
    · exact h.elim
end
end Tee
set_option maxRecDepth 100000
set_option maxHeartbeats 4000000
/-! Targets; parallel assignments; fields. -/
namespace Tee
open PySem PySem.Spec PyProof.Rows L2
/-- the slots of a target are among these -/
def subN : Nat → Pt → List Nat → Bool
  | 0, _, _ => false
  | _ + 1, .s i, vs => vs.any (Nat.beq i)
  | n + 1, .t ps, vs => ps.all fun p => subN n p vs
def Off (f : List Nat → Bool) (σ σ' : Sg) : Prop := σ'.length = σ.length ∧ ∀ vs, f vs = true → ∀ j, j ∉ vs → σ'[j]? = σ[j]?
def tGn (b : Bd) (n : Nat) (p : Pt) : TG := fun v σ H Q => ∃ F G S d S', bindN n p d S = some S' ∧ Rel b F G S σ H ∧ Rep b F d v ∧ ∀ F' σ' H', Same F F' → Rel b F' G S' σ' H' → Off (subN n p) σ σ' → Q σ' H'
def tGs (b : Bd) (n : Nat) (ps : List Pt) : TGs := fun vs σ H Q => ∃ F G S ds S', bindN.bindL (bindN n) ps ds S = some S' ∧ Rel b F G S σ H ∧ RepL b F ds vs ∧ ∀ F' σ' H', Same F F' → Rel b F' G S' σ' H' → Off (fun us => ps.all fun p => subN n p us) σ σ' → Q σ' H'
section
variable {X : Cx} {b : Bd} {W : Sg → Hp → Prop} {F F1 H : Hp} {G : Gh} {S : Ss} {σ : Sg} {D1 D2 : Ends}
theorem _root_.L2.PG.weak {e : Expr} {t t' : TG} (h : PG X e t) (k : ∀ v σ H Q, t' v σ H Q → t v σ H Q) : PG X e t' := ⟨fun p s σ H v u Q I r q => h.run p s σ H v u Q I r (k _ _ _ _ q)⟩
theorem _root_.L2.PGs.weak {e : List Expr} {t t' : TGs} (h : PGs X e t) (k : ∀ v σ H Q, t' v σ H Q → t v σ H Q) : PGs X e t' := ⟨fun p s σ H v u Q I r q => h.run p s σ H v u Q I r (k _ _ _ _ q)⟩
variable {st : Stmt} {rest : List Stmt} {m n : B} {e a c : Expr} {es : List Expr} {me ma mc : M} {pos pos' p : Pos}
theorem g_name {i k : Nat} {x : PySem.Str} (hN : X.N.Nodup) (hi : X.N[i]? = some x) (hx : Loc X.env.scope x) (hf : X.fn x = true ∨ X.env.scope.names.lookup x = some .local) : PG X (.Name x pos) (tGn b (k + 1) (.s i)) := (pg_name hN hi hx hf).weak fun v σ H Q ⟨F, G, S, d, S', e, r, h, q⟩ => by
  cases e
  refine q F _ H (Same.refl F) (r.setVal h) ⟨List.length_set .., fun vs hs j hj => List.getElem?_set_ne fun z => hj ?_⟩
  obtain ⟨y, hy, e⟩ := List.any_eq_true.mp hs
  rw [← z, Nat.eq_of_beq_eq_true e]
  exact hy
theorem gs_nil {k : Nat} : PGs X [] (tGs b k []) := pgs_nil.weak fun vs σ H Q ⟨F, G, S, ds, S', e, r, h, q⟩ => by
  cases ds with
  | cons d ds => cases e
  | nil =>
    cases e
    exact ⟨h.unnil, q F σ H (Same.refl F) r ⟨rfl, fun _ _ _ _ => rfl⟩⟩
theorem gs_cons {k : Nat} {pt : Pt} {ps : List Pt} (h1 : PG X e (tGn b k pt)) (h2 : PGs X es (tGs b k ps)) (hs : (assignEach (e :: es) X.env).map (·.2) = assign e X.env :: (assignEach es X.env).map (·.2)) : PGs X (e :: es) (tGs b k (pt :: ps)) :=
  (pgs_cons h1 h2 hs).weak fun vs σ H Q ⟨F, G, S, ds, S', e, r, h, q⟩ => by
    cases ds with
    | nil => cases e
    | cons d ds =>
      obtain ⟨v, t, rfl, h3, h4⟩ := h.uncons
      rw [bindN.bindL] at e
      cases hb : bindN k pt d S with
      | none =>
        rw [hb] at e
        cases e
      | some S1 =>
        rw [hb] at e
        exact ⟨v, t, rfl, F, G, S, d, S1, hb, r, h3, fun F1 σ1 H1 s1 r1 o1 => ⟨F1, G, S1, ds, S', e, r1, RepL.mono s1 ds h4, fun F2 σ2 H2 s2 r2 o2 => q F2 σ2 H2 (s1.trans s2) r2 ⟨o2.1.trans o1.1, fun us hu j hj => by
        have hu : (subN k pt us && ps.all fun p => subN k p us) = true := hu
        rw [Bool.and_eq_true] at hu
        rw [o2.2 us hu.2 j hj, o1.2 us hu.1 j hj]⟩⟩⟩
theorem bindL_len {f : Pt → D → Ss → Option Ss} : ∀ {ps : List Pt} {ds : List D} {S S' : Ss}, bindN.bindL f ps ds S = some S' → ds.length = ps.length
  | [], [], _, _, _ => rfl
  | [], _ :: _, _, _, h => by cases h
  | _ :: _, [], _, _, h => by cases h
  | p :: ps, d :: ds, S, S', h => by
    rw [bindN.bindL] at h
    cases hb : f p d S with
    | none =>
      rw [hb] at h
      cases h
    | some S1 =>
      rw [hb] at h
      rw [List.length_cons, List.length_cons, bindL_len h]
theorem bind_tup {k : Nat} {ps : List Pt} {d : D} {S S' : Ss} (e : bindN (k + 1) (.t ps) d S = some S') : ∃ ds, d = .tup ds ∧ bindN.bindL (bindN k) ps ds S = some S' := by
  cases d <;> first | (cases e; done) | skip
  exact ⟨_, rfl, e⟩
theorem g_tup {k n : Nat} {j : Nat} {ps : List Pt} (ok : Okb b X) (h : PGs X es (tGs b k ps)) (hl : ps.length = n) (hn : (assignEach es X.env).length = n) (hst : (assignEach es X.env).findIdx? (·.1) = none) : PG X (.Tuple es j pos) (tGn b (k + 1) (.t ps)) :=
  (pg_tup ok.calm h hn hst).weak fun v σ H Q ⟨F, G, S, d, S', e, r, h, q⟩ => by
    obtain ⟨ds, rfl, e⟩ := bind_tup e
    obtain ⟨p, vs, rfl, q1, q2⟩ := tup_of h
    refine ⟨p, vs, rfl, ok.K ▸ sqT_up r.base.sameF q1, ?_, F, G, S, ds, S', e, r, q2, q⟩
    rw [← q2.len, bindL_len e, hl]
/-- target = e -/
theorem q_unp {pt : Pt} (he : PE X e (tE b me)) (hg : PG X a (tGn b 4 pt)) (hs : swapsWithSole [a] e pos.line X.env = pure false) (hw : swappedStores [a] e X.env = pure none) (h1 : (assignEach [a] X.env).map (·.2) = [assign a X.env]) : PS X (.Assign [a] e pos) (tS b W (sUnp pt me)) :=
  (ps_asg he hg hs hw h1).weak fun D σ H ⟨F, G, S, rel, h⟩ => by
    unfold sUnp at h
    cases hm : me S with
    | no =>
      rw [hm] at h
      exact h.elim
    | go d S1 =>
      rw [hm] at h
      dsimp only at h
      cases hb : bind pt d S1 with
      | none =>
        rw [hb] at h
        exact h.elim
      | some S2 =>
        rw [hb] at h
        exact ⟨F, G, S, d, S1, hm, rel, fun F1 v H1 s1 r1 h1 => ⟨F1, G, S1, d, S2, hb, r1, h1, fun F2 σ2 H2 s2 r2 _ => h F2 σ2 H2 (s1.trans s2) r2⟩⟩
/-! ### a, b, .. = x, y, .. -/
/-- the order of what is under way does not matter -/
theorem Rel.sub {G' : Gh} (r : Rel b F G S σ H) (h : ∀ g ∈ G', g ∈ G) : Rel b F G' S σ H :=
  ⟨⟨r.base.sameF, r.base.sameH, r.base.mono, r.base.new, fun g hg => r.base.gh g (h g hg)⟩, r.len, r.slots, r.apart, fun g hg => r.apartG g (h g hg)⟩
def SlG (b : Bd) (F : Hp) : List Sl → List V → Gh → Prop
  | [], vs, G => vs = [] ∧ G = []
  | .val d :: xs, vs, G => ∃ v t, vs = v :: t ∧ Rep b F d v ∧ SlG b F xs t G
  | .lv [] :: xs, vs, G => ∃ p t G', vs = .ref p :: t ∧ G = (p, .lst []) :: G' ∧ SlG b F xs t G'
  | .dv [] [] :: xs, vs, G => ∃ p t G', vs = .ref p :: t ∧ G = (p, dicO p []) :: G' ∧ SlG b F xs t G'
  | _, _, _ => False
def tP (b : Bd) (m : Pa) : TA := fun σ H Q => ∃ F G S xs S', m S = .go xs S' ∧ Rel b F G S σ H ∧ ∀ F' vs H' G', Same F F' → Rel b F' (G' ++ G) S' σ H' → (G'.map (·.1)).Nodup → (∀ g ∈ G', ∀ q ∈ G, q.1 ≠ g.1) → SlG b F' xs vs G' → Q vs H'
theorem p_nil : PA X [] (tP b pN) := pa_nil.weak fun σ H Q ⟨F, G, S, xs, S', e, r, k⟩ => by
  cases e
  exact k F [] H [] (Same.refl F) r List.nodup_nil (fun g hg => by cases hg) ⟨rfl, rfl⟩
theorem p_val {r : Pa} (ha : PE X a (tE b ma)) (hr : PA X es (tP b r)) (hs : starEach (a :: es) X.env = (false, eval a X.env) :: starEach es X.env) : PA X (a :: es) (tP b (pC ma r)) := (pa_cons ha hr hs).weak fun σ H Q ⟨F, G, S, xs, S', e, rel, k⟩ => by
  unfold pC at e
  cases hm : ma S with
  | no =>
    rw [hm] at e
    cases e
  | go x S1 =>
    rw [hm] at e
    dsimp only at e
    cases hn : r S1 with
    | no =>
      rw [hn] at e
      cases e
    | go y S2 =>
      rw [hn] at e
      cases e
      exact ⟨F, G, S, x, S1, hm, rel, fun F1 v H1 s1 r1 h1 => ⟨F1, G, S1, y, S', hn, r1, fun F2 vs H2 G2 s2 r2 nd ap h2 => k F2 (v :: vs) H2 G2 (s1.trans s2) r2 nd ap ⟨v, vs, rfl, Rep.mono s2 x h1, h2⟩⟩⟩
theorem ghost_ne (r : Rel b F G S σ H) {p : Addr} (hp : H p = none) : ∀ g ∈ G, g.1 ≠ p := fun g hg z => by
  have := (r.base.gh g hg).1
  rw [z, hp] at this
  cases this
theorem p_new {r : Pa} {x : Sl} {o : Addr → HO} (ho : ∀ p a, o p ≠ .own a) (hx : ∀ F xs vs G p, SlG b F xs vs G → SlG b F (x :: xs) (.ref p :: vs) ((p, o p) :: G)) {m : Pa} (hm : ∀ S xs S', m S = .go xs S' → ∃ ys, r S = .go ys S' ∧ xs = x :: ys) :
    ∀ σ H Q, tP b m σ H Q → ∀ p, H p = none → tP b r σ (upd H p (o p)) fun vs H' => Q (.ref p :: vs) H' := fun σ H Q ⟨F, G, S, xs, S', e, rel, k⟩ p hp => by
  obtain ⟨ys, e1, rfl⟩ := hm S xs S' e
  refine ⟨F, (p, o p) :: G, S, ys, S', e1, rel.ghost hp (ho p), fun F1 vs H1 G1 s1 r1 nd ap h1 => ?_⟩
  refine k F1 (.ref p :: vs) H1 ((p, o p) :: G1) s1 (r1.sub fun g hg => ?_) ?_ (fun g hg q hq => ?_) (hx F1 ys vs G1 p h1)
  · rcases List.mem_append.mp hg with hg | hg
    · rcases List.mem_cons.mp hg with rfl | hg
      · exact List.mem_append_right _ List.mem_cons_self
      · exact List.mem_append_left _ hg
    · exact List.mem_append_right _ (List.mem_cons_of_mem _ hg)
  · rw [List.map_cons, List.nodup_cons]
    refine ⟨fun hm => ?_, nd⟩
    obtain ⟨g, hg, e⟩ := List.mem_map.mp hm
    exact ap g hg (p, o p) List.mem_cons_self e.symm
  · rcases List.mem_cons.mp hg with rfl | hg
    · exact ghost_ne rel hp q hq
    · exact ap g hg q (List.mem_cons_of_mem _ hq)
theorem p_list {r : Pa} {lpos : Pos} (hr : PA X es (tP b r)) (hs : starEach (.List [] lpos :: es) X.env = (false, eval (.List [] lpos) X.env) :: starEach es X.env) : PA X (.List [] lpos :: es) (tP b (pL r)) :=
  (pa_cons (pe_lst pa_nil) hr hs).weak fun σ H Q q => ⟨Nat.zero_le _, p_new (x := .lv []) (o := fun _ => .lst []) (fun p a z => by cases z) (fun F xs vs G p h => ⟨p, vs, G, rfl, rfl, h⟩) (fun S xs S' e => by
    unfold pL at e
    cases hr : r S with
    | no =>
      rw [hr] at e
      cases e
    | go y S2 =>
      rw [hr] at e
      cases e
      exact ⟨y, rfl, rfl⟩) σ H Q q⟩
theorem p_dict {r : Pa} {lpos : Pos} (hr : PA X es (tP b r)) (hs : starEach (.Dict [] [] lpos :: es) X.env = (false, eval (.Dict [] [] lpos) X.env) :: starEach es X.env) : PA X (.Dict [] [] lpos :: es) (tP b (pD r)) :=
  (pa_cons pe_newD hr hs).weak fun σ H Q q => p_new (x := .dv [] []) (o := fun p => dicO p []) (fun p a z => by cases z) (fun F xs vs G p h => ⟨p, vs, G, rfl, rfl, h⟩) (fun S xs S' e => by
    unfold pD at e
    cases hr : r S with
    | no =>
      rw [hr] at e
      cases e
    | go y S2 =>
      rw [hr] at e
      cases e
      exact ⟨y, rfl, rfl⟩) σ H Q q
def setAll : List Nat → List V → Sg → Sg
  | i :: is, v :: vs, σ => setAll is vs (σ.set i (some v))
  | _, _, σ => σ
theorem par_go : ∀ {ks : List Nat} {xs : List Sl} {vs : List V} {G' : Gh} {F : Hp} {S : Ss} {σ : Sg} {H : Hp} {D : Ends}, Rel b F (G' ++ G) S σ H → (G'.map (·.1)).Nodup → (∀ g ∈ G', ∀ q ∈ G, q.1 ≠ g.1) → SlG b F xs vs G' → After b W D F G (parGo ks xs S) → vs.length = ks.length ∧ D.nx (setAll ks vs σ) H
  | [], [], vs, G', F, S, σ, H, D, r, nd, ap, h, q => by
    obtain ⟨rfl, rfl⟩ := h
    exact ⟨rfl, q F σ H (Same.refl F) r⟩
  | [], _ :: _, _, _, _, _, _, _, _, _, _, _, _, q => q.elim
  | _ :: _, [], _, _, _, _, _, _, _, _, _, _, _, q => q.elim
  | i :: ks, .val d :: xs, vs, G', F, S, σ, H, D, r, nd, ap, h, q => by
    obtain ⟨v, t, rfl, h1, h2⟩ := h
    obtain ⟨z1, z2⟩ := par_go (ks := ks) (r.setVal (i := i) h1) nd ap h2 q
    exact ⟨by rw [List.length_cons, List.length_cons, z1], z2⟩
  | i :: ks, .lv [] :: xs, vs, G', F, S, σ, H, D, r, nd, ap, h, q => by
    obtain ⟨p, t, G2, rfl, rfl, h2⟩ := h
    rw [List.map_cons, List.nodup_cons] at nd
    have g := r.base.gh (p, .lst []) (List.mem_append_left _ List.mem_cons_self)
    have r2 : Rel b F ((p, .lst []) :: (G2 ++ G)) S σ H := r
    have ne : ∀ q ∈ G2 ++ G, q.1 ≠ p := fun q hq z => by
      rcases List.mem_append.mp hq with hq | hq
      · exact nd.1 (List.mem_map.mpr ⟨q, hq, z⟩)
      · exact ap (p, .lst []) List.mem_cons_self q hq z
    have r3 := r2.settle (i := i) (x := .lv []) ne ⟨p, [], rfl, g.1, g.2.1, g.2.2.1, RepL.nil'⟩
    obtain ⟨z1, z2⟩ := par_go (ks := ks) r3 nd.2 (fun g hg => ap g (List.mem_cons_of_mem _ hg)) h2 q
    exact ⟨by rw [List.length_cons, List.length_cons, z1], z2⟩
  | i :: ks, .dv [] [] :: xs, vs, G', F, S, σ, H, D, r, nd, ap, h, q => by
    obtain ⟨p, t, G2, rfl, rfl, h2⟩ := h
    rw [List.map_cons, List.nodup_cons] at nd
    have g := r.base.gh (p, dicO p []) (List.mem_append_left _ List.mem_cons_self)
    have r2 : Rel b F ((p, dicO p []) :: (G2 ++ G)) S σ H := r
    have ne : ∀ q ∈ G2 ++ G, q.1 ≠ p := fun q hq z => by
      rcases List.mem_append.mp hq with hq | hq
      · exact nd.1 (List.mem_map.mpr ⟨q, hq, z⟩)
      · exact ap (p, dicO p []) List.mem_cons_self q hq z
    have r3 := r2.settle (i := i) (x := .dv [] []) ne ⟨p, [], rfl, g.1, g.2.1, g.2.2.1, key0, RepL.nil'⟩
    obtain ⟨z1, z2⟩ := par_go (ks := ks) r3 nd.2 (fun g hg => ap g (List.mem_cons_of_mem _ hg)) h2 q
    exact ⟨by rw [List.length_cons, List.length_cons, z1], z2⟩
  | _ :: _, .no :: _, _, _, _, _, _, _, _, _, _, _, h, _ => h.elim
  | _ :: _, .lv (_ :: _) :: _, _, _, _, _, _, _, _, _, _, _, h, _ => h.elim
  | _ :: _, .dv (_ :: _) _ :: _, _, _, _, _, _, _, _, _, _, _, h, _ => h.elim
  | _ :: _, .dv [] (_ :: _) :: _, _, _, _, _, _, _, _, _, _, _, h, _ => h.elim
  | _ :: _, .iv _ :: _, _, _, _, _, _, _, _, _, _, _, h, _ => h.elim
theorem par_w {ks : List Nat} {m : Pa} : tS b W (sPar ks m) D1 σ H → tP b m σ H fun vs H' => vs.length = ks.length ∧ D1.nx (setAll ks vs σ) H' := fun ⟨F, G, S, rel, h⟩ => by
  unfold sPar at h
  cases hm : m S with
  | no =>
    rw [hm] at h
    exact h.elim
  | go xs S1 =>
    rw [hm] at h
    exact ⟨F, G, S, xs, S1, hm, rel, fun F1 vs H1 G1 s1 r1 nd ap h1 => par_go r1 nd ap h1 (After.up h s1)⟩
theorem q_par2 {i j : Nat} {x y : PySem.Str} {px py pt pt2 : Pos} {kt k2} {m : Pa} (ok : Okb b X) (hN : X.N.Nodup) (hi : X.N[i]? = some x) (hj : X.N[j]? = some y) (hij : i ≠ j) (hx : X.env.scope.names.lookup x = some .local) (hy : X.env.scope.names.lookup y = some .local) (ha : PA X [a, c] (tP b m))
    (hw : swappedStores [.Tuple [.Name x px, .Name y py] kt pt] (.Tuple [a, c] k2 pt2) X.env = pure (some [x, y])) (hs : swapsWithSole [.Tuple [.Name x px, .Name y py] kt pt] (.Tuple [a, c] k2 pt2) pos.line X.env = pure false) :
    PS X (.Assign [.Tuple [.Name x px, .Name y py] kt pt] (.Tuple [a, c] k2 pt2) pos) (tS b W (sPar [i, j] m)) := (ps_par ok.calm hN hi hj hij hx hy ha hw hs).weak fun D σ H q => by
  obtain ⟨F, G, S, xs, S', e, r, k⟩ := par_w q
  refine ⟨F, G, S, xs, S', e, r, fun F1 vs H1 G1 s1 r1 nd ap h1 => ?_⟩
  obtain ⟨z1, z2⟩ := k F1 vs H1 G1 s1 r1 nd ap h1
  match vs, z1 with
  | [v, w], _ => exact ⟨v, w, rfl, z2⟩
theorem q_par3 {i j l : Nat} {x y z : PySem.Str} {e : Expr} {px py pz pt pt2 : Pos} {kt k2} {m : Pa} (ok : Okb b X) (hN : X.N.Nodup) (hi : X.N[i]? = some x) (hj : X.N[j]? = some y) (hl : X.N[l]? = some z) (hij : i ≠ j) (hil : i ≠ l) (hjl : j ≠ l) (hx : X.env.scope.names.lookup x = some .local) (hy : X.env.scope.names.lookup y = some .local)
    (hz : X.env.scope.names.lookup z = some .local) (ha : PA X [a, c, e] (tP b m)) (hw : swappedStores [.Tuple [.Name x px, .Name y py, .Name z pz] kt pt] (.Tuple [a, c, e] k2 pt2) X.env = pure (some [x, y, z]))
    (hs : swapsWithSole [.Tuple [.Name x px, .Name y py, .Name z pz] kt pt] (.Tuple [a, c, e] k2 pt2) pos.line X.env = pure false) :
    PS X (.Assign [.Tuple [.Name x px, .Name y py, .Name z pz] kt pt] (.Tuple [a, c, e] k2 pt2) pos) (tS b W (sPar [i, j, l] m)) := (ps_par3 ok.calm hN hi hj hl hij hil hjl hx hy hz ha hw hs).weak fun D σ H q => by
  obtain ⟨F, G, S, xs, S', e, r, k⟩ := par_w q
  refine ⟨F, G, S, xs, S', e, r, fun F1 vs H1 G1 s1 r1 nd ap h1 => ?_⟩
  obtain ⟨z1, z2⟩ := k F1 vs H1 G1 s1 r1 nd ap h1
  match vs, z1 with
  | [u, v, w], _ => exact ⟨u, v, w, rfl, z2⟩
/-- .. by a tuple that is taken apart -/
def gNames : List Nat → TGs
  | [] => gNil
  | i :: is => gCons (gName i) (gNames is)
theorem gNames_all : ∀ {ks : List Nat} {vs : List V} {σ : Sg} {H : Hp} {Q : Sg → Hp → Prop}, vs.length = ks.length → Q (setAll ks vs σ) H → gNames ks vs σ H Q
  | [], [], _, _, _, _, q => ⟨rfl, q⟩
  | [], _ :: _, _, _, _, h, _ => by cases h
  | _ :: _, [], _, _, _, h, _ => by cases h
  | i :: ks, v :: vs, σ, H, Q, h, q => ⟨v, vs, rfl, gNames_all (ks := ks) (by simpa using h) q⟩
theorem gn_nil : PGs X [] (gNames []) := pgs_nil
theorem gn_cons {i : Nat} {is : List Nat} {x : PySem.Str} (hN : X.N.Nodup) (hi : X.N[i]? = some x) (hx : Loc X.env.scope x) (hf : X.fn x = true ∨ X.env.scope.names.lookup x = some .local) (h2 : PGs X es (gNames is)) (hs : (assignEach (.Name x p :: es) X.env).map (·.2) = assign (.Name x p) X.env :: (assignEach es X.env).map (·.2)) :
    PGs X (.Name x p :: es) (gNames (i :: is)) := pgs_cons (pg_name hN hi hx hf) h2 hs
theorem q_parT {ts : List Expr} {ks : List Nat} {kt k2 : Nat} {pt pt2 : Pos} {m : Pa} {n : Nat} (ok : Okb b X) (ha : PA X es (tP b m)) (hg : PGs X ts (gNames ks)) (hk : ks.length = n) (hn : (assignEach ts X.env).length = n) (hst : (assignEach ts X.env).findIdx? (·.1) = none) (hle : n ≤ 100)
    (hs : swapsWithSole [.Tuple ts kt pt] (.Tuple es k2 pt2) pos.line X.env = pure false) (hw : swappedStores [.Tuple ts kt pt] (.Tuple es k2 pt2) X.env = pure none) (h1 : (assignEach [.Tuple ts kt pt] X.env).map (·.2) = [assign (.Tuple ts kt pt) X.env]) :
    PS X (.Assign [.Tuple ts kt pt] (.Tuple es k2 pt2) pos) (tS b W (sPar ks m)) := (ps_asg (pe_tup ha) (pg_tup ok.calm hg hn hst) hs hw h1).weak fun D σ H q => by
  obtain ⟨F, G, S, xs, S', e, r, k⟩ := par_w q
  refine ⟨F, G, S, xs, S', e, r, fun F1 vs H1 G1 s1 r1 nd ap h1 => ?_⟩
  have z0 := (k F1 vs H1 G1 s1 r1 nd ap h1).1
  refine ⟨line_le (by omega), fun t ht => ?_⟩
  have r2 : Rel b F1 (G1 ++ G) S' σ (upd H1 t (.tup vs)) := r1.grow (fun _ _ e => e) (same_upd' ht) (r1.base.sameF.trans (same_upd' ht)) fun _ q => .inl q
  obtain ⟨z1, z2⟩ := k F1 vs _ G1 s1 r2 nd ap h1
  exact ⟨t, vs, rfl, SqT.of upd_same, by rw [z1, hk], gNames_all z1 z2⟩
end
end Tee
set_option maxRecDepth 100000
set_option maxHeartbeats 4000000
/-! What is walked. -/
namespace Tee
open PySem PySem.Spec PyProof.Rows L2
/-- an iterator that yields these trees -/
def Yields (b : Bd) (F0 : Hp) (l : List D) (J : It) : Prop := ∀ (i : Nat) (F : Hp) (G : Gh) (S : Ss) (σ : Sg) (H : Hp), Same F0 F → Rel b F G S σ H →
  (∀ d, l[i]? = some d → J.go i H ∧ ∀ x H', J.yld i H x H' → ∃ F', Same F F' ∧ Rel b F' G S σ H' ∧ Rep b F' d x) ∧ (l.length = i → J.stop i H)
def tI (b : Bd) (src : L) : TI := fun σ H R => ∃ F G S l S', src S = .go l S' ∧ Rel b F G S σ H ∧ ∀ F' H' J, Same F F' → Rel b F' G S' σ H' → Yields b F' l J → R J H'
section
variable {X : Cx} {b : Bd} {F H : Hp} {G : Gh} {S : Ss} {σ : Sg}
theorem yields_list {a : Addr} {l : List D} {vs : List V} (h : F a = some (.lst vs)) (r : RepL b F l vs) : Yields b F l (Itl b.K a) := fun i F1 G S σ H s rel => by
  have q : SqL b.K H a vs := .inl (.inl (rel.base.sameF _ _ (s _ _ h)))
  refine ⟨fun d e => ?_, fun hi => ⟨vs, q, by rw [← r.len]; exact Nat.le_of_eq hi⟩⟩
  obtain ⟨v, e1, e2⟩ := r.get e
  refine ⟨⟨vs, v, q, e1⟩, fun x H' ⟨y1, y2⟩ => ?_⟩
  have z := y2 vs q
  rw [e1] at z
  cases z
  rw [y1]
  exact ⟨F1, Same.refl F1, rel, Rep.mono s d e2⟩
theorem yields_tup {a : Addr} {l : List D} {vs : List V} (h : SqT b.K F a vs) (r : RepL b F l vs) : Yields b F l (Itt b.K a) := fun i F1 G S σ H s rel => by
  have q : SqT b.K H a vs := sqT_up rel.base.sameF (sqT_mono s h)
  refine ⟨fun d e => ?_, fun hi => ⟨vs, q, by rw [← r.len]; exact Nat.le_of_eq hi⟩⟩
  obtain ⟨v, e1, e2⟩ := r.get e
  refine ⟨⟨vs, v, q, e1⟩, fun x H' ⟨y1, y2⟩ => ?_⟩
  have z := y2 vs q
  rw [e1] at z
  cases z
  rw [y1]
  exact ⟨F1, Same.refl F1, rel, Rep.mono s d e2⟩
theorem rangeL_len : ∀ (n : Nat) (i : Int), (rangeL n i).length = n
  | 0, _ => rfl
  | n + 1, i => congrArg (· + 1) (rangeL_len n (i + 1))
theorem rangeL_get : ∀ (n : Nat) (i : Int) (k : Nat) (d : D), (rangeL n i)[k]? = some d → k < n ∧ d = .int (i + k)
  | 0, _, _, _, h => by cases h
  | n + 1, i, 0, d, h => by
    cases h
    exact ⟨Nat.succ_pos _, by simp⟩
  | n + 1, i, k + 1, d, h => by
    obtain ⟨h1, h2⟩ := rangeL_get n (i + 1) k d h
    refine ⟨Nat.succ_lt_succ h1, ?_⟩
    rw [h2]
    congr 1
    rw [Int.natCast_add]
    omega
theorem yields_range {n : Nat} : Yields b F (rangeL n 0) (Itr 0 n) := fun i F1 G S σ H s rel => by
  refine ⟨fun d e => ?_, fun hi => by rw [rangeL_len] at hi; exact Nat.le_of_eq hi⟩
  obtain ⟨h1, rfl⟩ := rangeL_get _ _ _ _ e
  refine ⟨h1, fun x H' ⟨y1, y2⟩ => ?_⟩
  rw [y1, y2]
  exact ⟨F1, Same.refl F1, rel, Rep.int'⟩
/-! ### dicts -/
/-- a locked dict of trees -/
theorem frz_dic {pins : List (Addr × Obj)} {s : Shared} {d : Addr} {o : Obj} {es : List Rw3} (I : Inv X pins σ H s) (h : H d = some (.frz o (dicO d es))) :
    (d == sysModules) = false ∧ s.heap.get? d = some o ∧ o.ExactDict ∧ ∃ ds ep, o.data = .dict ds ep ∧ ds.size = es.length ∧ ∀ (i : Nat) e, es[i]? = some e → ∃ u, ds[i]? = some (rawEntry e u) ∧ RelV e.2.2 u := by
  obtain ⟨hd, q⟩ := (show ObjOk X.prog X.w H s.heap d (.frz o (dicO d es)) from I.hok d _ h)
  obtain ⟨p1, p2, us, rv, ob, ds, ep, e1, e2, e3, e4⟩ := (show DicAt d es s.heap from q.1)
  rw [hd] at e1
  cases e1
  have l1 := rv.length
  rw [List.length_map] at l1
  refine ⟨p1, hd, e2, ds, ep, e3, ?_, fun i e he => ?_⟩
  · rw [← Array.length_toList, e4, List.length_zipWith, ← l1, Nat.min_self]
  · obtain ⟨u, u1, u2⟩ := rv.get (i := i) (x := e.2.2) (by rw [List.getElem?_map, he]; rfl)
    refine ⟨u, ?_, u2⟩
    rw [← Array.getElem?_toList, e4, List.getElem?_zipWith, he, u1]
def Itkd (d : Addr) (o : Obj) (es : List Rw3) : It :=
  ⟨fun i H => H d = some (.frz o (dicO d es)) ∧ i < es.length, fun i H x H' => H' = H ∧ ∃ e, es[i]? = some e ∧ x = .ref e.2.1, fun i H => H d = some (.frz o (dicO d es)) ∧ es.length ≤ i⟩
def Itid (d : Addr) (o : Obj) (es : List Rw3) : It :=
  ⟨fun i H => H d = some (.frz o (dicO d es)) ∧ i < es.length, fun i H x H' => ∃ T e, es[i]? = some e ∧ x = .ref T ∧ H T = none ∧ H' = upd H T (.tup [.ref e.2.1, e.2.2]), fun i H => H d = some (.frz o (dicO d es)) ∧ es.length ≤ i⟩
variable {P : Program} {w : World} {K : PySem.W.Frag} {tg : Expr} {d : Addr} {o : Obj} {ds : Array DictEntry} {ep : Nat} {es : List Rw3}
theorem turn_kd (it : Addr) (hod : o.data = .dict ds ep) : Turn P w K tg (Itkd d o es) [it] it (fun i h => h.IsKeyIter it d i es.length ep) where
  mem := List.mem_singleton.mpr rfl
  obj := fun i h st c hc => by
    rw [List.mem_singleton.mp hc]
    obtain ⟨oi, e, _, dd⟩ := st
    refine ⟨oi, e, fun v z => ?_⟩
    rw [dd] at z
    cases z
  keep := fun i h h' st k => st.at fun oi e => k it (List.mem_singleton.mpr rfl) oi e
  item := by
    rintro X rfl rfl rfl hc i pins s σ H E I hf st ⟨hd, hi⟩
    obtain ⟨f0, f1, f2, f3, f4, f5⟩ := hf it (List.mem_singleton.mpr rfl)
    obtain ⟨_, hgd, _, ds', ep', hdt, hsz, ent⟩ := frz_dic I hd
    obtain ⟨rfl, rfl⟩ := dict_ep hod hdt
    obtain ⟨u, hen, _⟩ := ent i es[i] (List.getElem?_eq_getElem hi)
    refine next_key_item st hgd hdt hsz hen fun h' st' sb => ?_
    have I1 : Inv X pins σ H { s with heap := h' } := I.turned (t' := s.toks) (fun c oc hc e => (sb.2 c hc).trans e) f0 f1 f3 f4 f5
    obtain ⟨oi, e, c, dd⟩ := id st'
    exact ⟨_, rfl, go_of (s := { s with heap := h' }) e c dd (by decide) ⟨.ref es[i].2.1, H, I1, rfl, ⟨rfl, _, List.getElem?_eq_getElem hi, rfl⟩, st', fun c hc => (hf c hc).1⟩⟩
  done := by
    rintro X rfl rfl rfl hc i pins s σ H E I hf st ⟨hd, hi⟩
    obtain ⟨f0, f1, f2, f3, f4, f5⟩ := hf it (List.mem_singleton.mpr rfl)
    obtain ⟨_, hgd, _, ds', ep', hdt, hsz, ent⟩ := frz_dic I hd
    obtain ⟨rfl, rfl⟩ := dict_ep hod hdt
    exact next_key_end (I.ok.hd hc) st hgd hdt hsz hi fun h' eb => ⟨rfl, I.turned (t' := s.toks) (fun c oc hc e => eb c oc hc e) f0 f1 f3 f4 f5⟩
  self := fun A i s Q E st h => by
    refine wpAny_pyIter_slot st.typeIs PySem.F.slot_dict_keyiterator_iter (wpAny_call_entry PySem.F.slot_dict_keyiterator_iter st.typeIs PySem.F.entry_dict_keyiterator_iter ?_ (PySem.F.args_dict_keyiterator_iter_1 _))
    show wpAny _ _ (ret (.ref it)) _ _ s
    exact wpAny_pure ⟨_, rfl, "dict_keyiterator", _, st.typeIs, PySem.F.slot_dict_keyiterator_next.lookup, h⟩
theorem turn_id {elts : List Expr} {kk : Nat} {tpos : Pos} (it : Addr) (hod : o.data = .dict ds ep) :
    Turn P w K (.Tuple elts kk tpos) (Itid d o es) [it] it (fun i h => ∃ ok ov, h.get? it = some (DVw.itmOb d .none i es.length ep ok ov)) where
  mem := List.mem_singleton.mpr rfl
  obj := fun i h st c hc => by
    rw [List.mem_singleton.mp hc]
    obtain ⟨ok, ov, e⟩ := st
    exact ⟨_, e, fun v z => nomatch z⟩
  keep := fun i h h' st k => let ⟨ok, ov, e⟩ := st; ⟨ok, ov, k it (List.mem_singleton.mpr rfl) _ e⟩
  item := by
    rintro X rfl rfl rfl hc i pins s σ H E I hf st ⟨hd, hi⟩
    obtain ⟨_, hgd, _, ds', ep', hdt, hsz, ent⟩ := frz_dic I hd
    obtain ⟨rfl, rfl⟩ := dict_ep hod hdt
    obtain ⟨u, hen, ru⟩ := ent i es[i] (List.getElem?_eq_getElem hi)
    obtain ⟨ok, ov, hit⟩ := st
    have hlt : it < s.heap.objs.size := Heap.lt_size hit
    refine DVw.itm_item hit hgd hdt hsz hen fun h' b1 b2 b3 b4 => ?_
    refine ⟨_, rfl, wpAny_letOwnedTupleGo_items (s := { s with heap := h' }) (d := d) (i := i + 1) (n := es.length) (ep := ep') (ok := .ref es[i].2.1) (ov := u) b1 fun h'' he' sb => ?_⟩
    have hT2 : h''.get? s.heap.objs.size = some { cls := .type "tuple", data := .seq #[.ref es[i].2.1, u] } := (sb.2 _ (Nat.ne_of_gt hlt)).trans b2
    have fresh : H s.heap.objs.size = none := I.hok.fresh (Nat.le_refl _)
    have nw : ObjOk X.prog X.w (upd H s.heap.objs.size (.tup [.ref es[i].2.1, es[i].2.2])) h'' s.heap.objs.size (.tup [.ref es[i].2.1, es[i].2.2]) :=
      ⟨line_le (n := 2) (by decide), [.ref es[i].2.1, u], .cons rfl (.cons ru .nil), ⟨_, hT2, rfl, _, rfl⟩⟩
    have I1 : Inv X pins σ (upd H s.heap.objs.size (.tup [.ref es[i].2.1, es[i].2.2])) { s with heap := h'' } :=
      I.turnedNew (t' := s.toks) (ch := [it]) (fun c oc hc z => (sb.2 c (fun q => hc (List.mem_singleton.mpr q))).trans (b4 c oc (fun q => hc (List.mem_singleton.mpr q)) z)) hf (Nat.le_refl _) nw
    refine ⟨.ref s.heap.objs.size, _, I1, rfl, ⟨_, _, List.getElem?_eq_getElem hi, rfl, fresh, rfl⟩, ⟨_, _, he'⟩, fun c hc => ?_⟩
    rw [List.mem_singleton.mp hc, upd_ne (Nat.ne_of_lt hlt)]
    exact (hf it (List.mem_singleton.mpr rfl)).1
  done := by
    rintro X rfl rfl rfl hc i pins s σ H E I hf st ⟨hd, hi⟩
    obtain ⟨f0, f1, f2, f3, f4, f5⟩ := hf it (List.mem_singleton.mpr rfl)
    obtain ⟨_, hgd, _, ds', ep', hdt, hsz, ent⟩ := frz_dic I hd
    obtain ⟨rfl, rfl⟩ := dict_ep hod hdt
    obtain ⟨ok, ov, hit⟩ := st
    exact DVw.itm_end (I.ok.hd hc) hit hgd hdt hsz (Array.getElem?_eq_none (by rw [hsz]; exact hi)) fun h' eb => ⟨rfl, I.turned (t' := s.toks) (fun c oc hc e => eb c oc hc e) f0 f1 f3 f4 f5⟩
  self := fun A i s Q E st h => let ⟨_, _, e⟩ := st; PySem.W.kcp_self e h
/-- a dict of trees is walked -/
def iDic (f : Addr → Obj → List Rw3 → It) (td : TE) : TI := fun σ H R => td σ H fun x H1 => ∃ d o es, x = .ref d ∧ H1 d = some (.frz o (dicO d es)) ∧ R (f d o es) H1
variable {e : Expr} {td : TE} {apos cpos : Pos}
theorem pi_kd (he : PE X e td) : PI X tg e (iDic Itkd td) := by
  refine ⟨fun pins s σ H R I h => ?_⟩
  refine thn (he.run pins s σ H _ I h) fun u s1 ⟨x, H1, I1, rx, d, o, es, ex, hd, q⟩ => ?_
  subst ex
  obtain rfl : u = Value.ref d := rx
  obtain ⟨hs, hgd, hx, ds, ep, hdt, hsz, _⟩ := frz_dic I1 hd
  refine iter_keys hs hgd hx hdt (pi_one (tk := s1.toks) I1 _ (turn_kd _ hdt) ⟨_, Heap.get?_push_size _ rfl, rfl, ?_⟩ q)
  rw [hsz]
  rfl
theorem pi_id {elts : List Expr} {kk : Nat} {tpos : Pos} (he : PE X e td) (hb : attributeBase e "items" X.env (eval e X.env) = eval e X.env) (hl : (apos.endLine == cpos.line) = true) :
    PI X (.Tuple elts kk tpos) (.Call (.Attribute e "items" apos) [] [] cpos) (iDic Itid td) := by
  refine ⟨fun pins s σ H R I h => ?_⟩
  refine wpAny_Call_method (T := "dict") (id := "dict.items") hb rfl hl PySem.F.plainAttrs_dict PySem.F.slot_dict_items PySem.F.type_dict_items (thn (he.run pins s σ H _ I h) fun u s1 ⟨x, H1, I1, rx, d, o, es, ex, hd, q⟩ => ?_)
  subst ex
  obtain rfl : u = Value.ref d := rx
  obtain ⟨hs, hgd, hx, ds, ep, hdt, hsz, _⟩ := frz_dic I1 hd
  refine ⟨⟨o, hgd, hx.1⟩, fun c ec => ?_, ?_⟩
  · cases ec
    exact ⟨o, hgd, hx.2.1⟩
  have I2 : Inv X pins σ H1 { s1 with heap := s1.heap.push (DSub.viewOb "dict_items" d) } := I1.kept (t' := s1.toks) fun c oc q => Heap.get?_push_of_some _ q
  refine Calls.callWith_builtin rfl (PySem.evalArgs_none ?_)
  refine DT.callItems (es := ds) (ep := ep) hs ⟨o, hgd, hx, hdt⟩ ?_
  refine DSub.iter_itms (v := s1.heap.objs.size) (a := d) (Heap.get?_push_size _ rfl) (Heap.get?_push_of_some _ hgd) hdt ?_
  refine pi_one (tk := s1.toks) I2 _ (turn_id _ hdt) ⟨.none, .none, ?_⟩ q
  rw [← hsz]
  exact Heap.get?_push_size _ rfl
theorem yields_keys {ks us : List D} {a : Addr} (h : F a = some (.frz o (dicO a es))) (kr : KeyR b F ks es) : Yields b F ks (Itkd a o es) := fun i F1 G S σ H s rel => by
  have q := rel.base.sameF _ _ (s _ _ h)
  have l := kr.len
  refine ⟨fun d e => ?_, fun hi => ⟨q, by rw [← l]; exact Nat.le_of_eq hi⟩⟩
  have hi : i < ks.length := (List.getElem?_eq_some_iff.mp e).1
  refine ⟨⟨q, by rw [← l]; exact hi⟩, fun x H' ⟨y1, en, y2, y3⟩ => ?_⟩
  obtain ⟨v, e1, e2⟩ := kr.1.get e
  rw [List.getElem?_map, y2] at e1
  cases e1
  rw [y1, y3]
  exact ⟨F1, Same.refl F1, rel, Rep.mono s d e2⟩
theorem pairs_get : ∀ (l m : List D) (i : Nat) (d : D), (pairs l m)[i]? = some d → ∃ x y, l[i]? = some x ∧ m[i]? = some y ∧ d = .tup [x, y]
  | [], _, _, _, h => by cases h
  | _ :: _, [], _, _, h => by cases h
  | a :: r, c :: t, 0, d, h => by
    cases h
    exact ⟨a, c, rfl, rfl, rfl⟩
  | a :: r, c :: t, i + 1, d, h => pairs_get r t i d h
theorem pairs_len : ∀ (l m : List D), (pairs l m).length = min l.length m.length
  | [], _ => by simp [pairs]
  | _ :: _, [] => by simp [pairs]
  | a :: r, c :: t => by
    rw [pairs, List.length_cons, pairs_len r t, List.length_cons, List.length_cons]
    omega
theorem rep_pair {x y : D} {u v : V} {T : Addr} (hF : F T = none) (hx : Rep b F x u) (hy : Rep b F y v) : Rep b (upd F T (.tup [u, v])) (.tup [x, y]) (.ref T) := rep_newT hF (.cons' hx (.cons' hy .nil'))
theorem yields_items {ks us : List D} {a : Addr} (h : F a = some (.frz o (dicO a es))) (kr : KeyR b F ks es) (rl : RepL b F us (es.map (·.2.2))) : Yields b F (pairs ks us) (Itid a o es) := fun i F1 G S σ H s rel => by
  have q := rel.base.sameF _ _ (s _ _ h)
  have l := kr.len
  have l2 := rl.len
  rw [List.length_map] at l2
  refine ⟨fun d e => ?_, fun hi => ⟨q, by rw [pairs_len] at hi; omega⟩⟩
  obtain ⟨x, y, hx, hy, rfl⟩ := pairs_get _ _ _ _ e
  have hi : i < ks.length := (List.getElem?_eq_some_iff.mp hx).1
  refine ⟨⟨q, by rw [← l]; exact hi⟩, fun z H' ⟨T, en, y2, y3, y4, y5⟩ => ?_⟩
  obtain ⟨u, u1, u2⟩ := kr.1.get hx
  obtain ⟨v, v1, v2⟩ := rl.get hy
  rw [List.getElem?_map, y2] at u1 v1
  cases u1
  cases v1
  rw [y3, y5]
  exact ⟨_, same_alloc rel y4, rel.alloc y4, rep_pair (sameNone rel.base.sameF y4) (Rep.mono s x u2) (Rep.mono s y v2)⟩
variable {me : M}
theorem PI_case {iter : Expr} {t : TI} (h : ∀ σ H R, t σ H R → ∃ t', PI X tg iter t' ∧ t' σ H R) : PI X tg iter t := ⟨fun pins s σ H R I q => let ⟨_, p, q⟩ := h σ H R q; p.run pins s σ H R I q⟩
/-- for .. in e -/
theorem i_of (ok : Okb b X) (he : PE X e (tE b me)) : PI X tg e (tI b (iOf me)) := PI_case fun σ H R ⟨F, G, S, l, S', e1, rel, k⟩ => by
  unfold iOf at e1
  split at e1
  · rename_i l' S1 hm
    cases e1
    refine ⟨_, pi_tup he, F, G, S, _, _, hm, rel, fun F1 v H1 s1 r1 h1 => ?_⟩
    rw [Rep] at h1
    obtain ⟨a, vs, rfl, q1, q2⟩ := h1
    rw [← ok.K]
    exact ⟨a, rfl, ⟨vs, sqT_up r1.base.sameF q1⟩, k F1 H1 _ s1 r1 (yields_tup q1 q2)⟩
  · rename_i l' S1 hm
    cases e1
    refine ⟨_, pi_list he, F, G, S, _, _, hm, rel, fun F1 v H1 s1 r1 h1 => ?_⟩
    rw [Rep] at h1
    obtain ⟨a, vs, rfl, q1, q2⟩ := h1
    rw [← ok.K]
    exact ⟨a, rfl, ⟨vs, .inl (.inl (r1.base.sameF _ _ q1))⟩, k F1 H1 _ s1 r1 (yields_list q1 q2)⟩
  · rename_i ks us S1 hm
    cases e1
    refine ⟨_, pi_kd he, F, G, S, _, _, hm, rel, fun F1 v H1 s1 r1 h1 => ?_⟩
    rw [Rep] at h1
    obtain ⟨a, o, es, rfl, q1, q2, q3⟩ := h1
    exact ⟨a, o, es, rfl, r1.base.sameF _ _ q1, k F1 H1 _ s1 r1 (yields_keys (us := us) q1 q2)⟩
  · cases e1
/-- for .. in range(e) -/
theorem i_range {p pos : Pos} (hg : Gl X "range") (hm : X.mg "range" = none) (he : PE X e (tE b me)) (hs : starEach [e] X.env = [(false, eval e X.env)]) : PI X tg (.Call (.Name "range" p) [e] [] pos) (tI b (iRange me)) := PI_case fun σ H R ⟨F, G, S, l, S', e1, rel, k⟩ => by
  unfold iRange at e1
  split at e1
  · rename_i j S1 hm'
    split at e1
    · rename_i hj
      cases e1
      rw [Bool.and_eq_true] at hj
      have h1 : j < 4096 := of_decide_eq_true (ilt_iff ▸ hj.1)
      have h2 : -4096 < j := of_decide_eq_true (ilt_iff ▸ hj.2)
      refine ⟨_, pi_range1 hg hm (pa_cons he pa_nil hs) hs, F, G, S, _, _, hm', rel, fun F1 v H1 s1 r1 h => ?_⟩
      rw [Rep] at h
      subst h
      refine ⟨j, rfl, by omega, by omega, k F1 H1 _ s1 r1 yields_range⟩
    · cases e1
  · cases e1
/-- for .. in e.items() -/
theorem i_items {elts : List Expr} {kk : Nat} {tpos : Pos} (he : PE X e (tE b me)) (hb : attributeBase e "items" X.env (eval e X.env) = eval e X.env) (hl : (apos.endLine == cpos.line) = true) :
    PI X (.Tuple elts kk tpos) (.Call (.Attribute e "items" apos) [] [] cpos) (tI b (iItems me)) := PI_case fun σ H R ⟨F, G, S, l, S', e1, rel, k⟩ => by
  unfold iItems at e1
  split at e1
  · rename_i ks us S1 hm
    cases e1
    refine ⟨_, pi_id he hb hl, F, G, S, _, _, hm, rel, fun F1 v H1 s1 r1 h1 => ?_⟩
    rw [Rep] at h1
    obtain ⟨a, o, es, rfl, q1, q2, q3⟩ := h1
    exact ⟨a, o, es, rfl, r1.base.sameF _ _ q1, k F1 H1 _ s1 r1 (yields_items q1 q2 q3)⟩
  · cases e1
end
end Tee
set_option maxRecDepth 100000
set_option maxHeartbeats 4000000
/-! enumerate of a tuple; zip. -/
namespace Tee
open PySem PySem.Spec PyProof.Rows L2
theorem tup_draws {prog : Program} {w : World} {A : Around} (hh : A.handled = none) (it l : Addr) (hne : l ≠ it) (items : Array Value) :
    Draws prog w A it [it, l] items.size (fun i v => items[i]? = some v) (fun i h => h.IsTupleIter it l i ∧ h.IsTuple l items) where
  live := fun _ _ ⟨⟨o, ho, _⟩, _⟩ => ⟨o, ho⟩
  frame := fun _ _ _ ⟨⟨o, ho, x⟩, ⟨p, hp, y⟩⟩ hk => ⟨⟨o, hk it List.mem_cons_self o ho, x⟩, ⟨p, hk l (List.mem_cons_of_mem _ List.mem_cons_self) p hp, y⟩⟩
  item := fun i s Q E hi ⟨h1, h2⟩ hQ => by
    refine RZ.nextOf_tuple_item h1 h2 (Array.getElem?_eq_getElem hi) fun h' hit' hs' => ?_
    obtain ⟨p, hp, y⟩ := h2
    exact hQ _ h' s.toks (Array.getElem?_eq_getElem hi) ⟨hit', p, (hs'.2 l hne).trans hp, y⟩ hs'
  done := fun s Q E ⟨h1, h2⟩ hE => RZ.nextOf_tuple_end hh h1 h2 (Array.getElem?_eq_none (Nat.le_refl _)) hE
/-! ### enumerate -/
theorem meets_enumT (l : Addr) (items : Array Value) :
    Meets (Builtin.«enumerate.__new__» ⟨[.type "enumerate", .ref l], []⟩) (fun _ R s => s.heap.IsTuple l items ∧
      R (.ok (.ret (.ref (s.heap.push { cls := .type "tuple_iterator", data := .fields #[.ref l, .int 0 0] }).objs.size)))
        { s with heap := (s.heap.push { cls := .type "tuple_iterator", data := .fields #[.ref l, .int 0 0] }).push { cls := .type "enumerate", data := .fields #[.none, .bool false, .ref s.heap.objs.size, rawInt 0, .none, .none] } }) :=
  .of_wp fun prog w A R s h => by
    obtain ⟨hp, g, d, tk, os⟩ := s
    obtain ⟨hl, h⟩ := h
    have hsub := sub_enumerate
    have hL : Heap.IsTuple (Shared.heap ⟨hp, g, d, tk, os⟩) l items := hl
    wp_walk
    refine wpAny_stack_any fun st => wpAny_pure ?_
    split
    · rename_i c _ _ _ _ _
      cases (c == Value.type "enumerate")
      · wp_walk using wpAny_pyIter_tuple hL
        exact ⟨_, rfl, h⟩
      · wp_walk using wpAny_pyIter_tuple hL
        exact ⟨_, rfl, h⟩
    · wp_walk using wpAny_pyIter_tuple hL
      exact ⟨_, rfl, h⟩
theorem call_enumT {prog : Program} {w : World} {A : Around} {E : Value → Shared → Prop} {s : Shared} {l : Addr} {items : Array Value} {Q : Value → Shared → Prop} (hL : s.heap.IsTuple l items)
    (h : ∀ h', IsEnum h' (s.heap.objs.size + 1) s.heap.objs.size 0 .none → h'.IsTupleIter s.heap.objs.size l 0 → (∀ c o, s.heap.get? c = some o → h'.get? c = some o) → Q (.ref (s.heap.objs.size + 1)) { s with heap := h' }) :
    wpAny (model prog w) A (call (.type "enumerate") [.ref l]) Q E s := by
  refine callType_new PySem.F.called_enumerate (by decide) (PySem.F.typeCall_enumerate_1 _) (PySem.F.newCall_enumerate_1 _) (fun obj => PySem.F.args_object_init_2 obj _) PySem.F.entry_enumerate_new (meets_enumT l items) ⟨hL, ?_⟩
  have hz : (s.heap.push { cls := .type "tuple_iterator", data := .fields #[.ref l, .int 0 0] }).objs.size = s.heap.objs.size + 1 := Heap.size_push ..
  have he := Heap.get?_push_size (s.heap.push { cls := .type "tuple_iterator", data := .fields #[.ref l, .int 0 0] }) (o := { cls := .type "enumerate", data := .fields #[.none, .bool false, .ref s.heap.objs.size, rawInt 0, .none, .none] }) rfl
  show _ ∧ _
  rw [hz] at he ⊢
  exact ⟨⟨_, he, rfl⟩, h _ he ⟨_, Heap.get?_push_of_some _ (Heap.get?_push_size _ rfl), rfl, rfl⟩ fun c o x => Heap.get?_push_of_some _ (Heap.get?_push_of_some _ x)⟩
def Itet (K : PySem.W.Frag) (a : Addr) : It :=
  ⟨fun i H => ∃ (xs : List V) (x : V), SqT K H a xs ∧ xs[i]? = some x, fun i H v H' => ∃ T x, v = .ref T ∧ H T = none ∧ H' = upd H T (.tup [.int (i : Nat), x]) ∧ ∀ xs, SqT K H a xs → xs[i]? = some x, fun i H => ∃ xs : List V, SqT K H a xs ∧ xs.length = i⟩
theorem ne_cls {h : Heap} {x y : Addr} {o p : Obj} (e1 : h.get? x = some o) (e2 : h.get? y = some p) (n : o.cls ≠ p.cls) : x ≠ y := fun z => by
  rw [z, e2] at e1
  cases e1
  exact n rfl
theorem turn_et {P : Program} {w : World} {K : PySem.W.Frag} {elts : List Expr} {kk : Nat} {tpos : Pos} (a e it : Addr) :
    Turn P w K (.Tuple elts kk tpos) (Itet K a) [e, it] e (fun i h => (∃ old, IsEnum h e it ((i : Nat) : Int) old) ∧ h.IsTupleIter it a i ∧ e ≠ it) where
  mem := List.mem_cons_self
  obj := fun i h st c hc => by
    obtain ⟨⟨old, he⟩, ⟨o, ho, _, hd⟩, _⟩ := st
    rcases List.mem_cons.mp hc with z | z
    · rw [z]
      exact ⟨_, he, fun v q => nomatch q⟩
    · rw [List.mem_singleton.mp z]
      exact ⟨o, ho, fun v q => by rw [hd] at q; cases q⟩
  keep := fun i h h' ⟨⟨old, he⟩, ⟨o, ho, x⟩, hne⟩ k => ⟨⟨old, k e List.mem_cons_self _ he⟩, ⟨o, k it (List.mem_cons_of_mem _ List.mem_cons_self) o ho, x⟩, hne⟩
  item := by
    rintro X rfl rfl rfl hc i pins s σ H E I hf ⟨⟨old, he⟩, hit, hne⟩ ⟨xs, x, hq, hx⟩
    obtain ⟨its, rv, p, _⟩ := I.tuple hq
    have p : s.heap.IsTuple a its.toArray := p
    obtain ⟨u, hu, ru⟩ := rv.get hx
    obtain ⟨oa, ea, ca, _⟩ := id p
    obtain ⟨oi, ei, ci, _⟩ := id hit
    have hel : e < s.heap.objs.size := Heap.lt_size he
    have hil : it < s.heap.objs.size := Heap.lt_size ei
    have ai : a ≠ it := ne_cls ea ei (by rw [ca, ci]; decide)
    have ae : a ≠ e := ne_cls ea he (by
      rw [ca]
      show Value.type "tuple" ≠ Value.type "enumerate"
      decide)
    have hi : i < its.length := (List.getElem?_eq_some_iff.mp hu).1
    refine wpAny_pyNext_enum_itemD (tup_draws (show X.A.in1.handled = none from I.ok.hd hc) it a ai its.toArray) he ⟨hit, p⟩ (by simpa using hi) hne (by simp [hne, Ne.symm ae]) fun y h' tk hP ho st' hT hsz hk => ?_
    have hy : y = u := by
      have hP : its.toArray[i]? = some y := hP
      rw [List.getElem?_toArray, hu] at hP
      cases hP
      rfl
    subst hy
    refine ⟨_, rfl, wpAny_letOwnedTupleGo_enum (s := { s with heap := h', toks := tk + 1 }) ho fun h'' he' sb => ?_⟩
    have hT2 : h''.get? s.heap.objs.size = some { cls := .type "tuple", data := .seq #[.int i tk, y] } := (sb.2 _ (Nat.ne_of_gt hel)).trans hT
    have nw : ObjOk X.prog X.w (upd H s.heap.objs.size (.tup [.int (i : Nat), x])) h'' s.heap.objs.size (.tup [.int (i : Nat), x]) :=
      ⟨line_le (n := 2) (by decide), [.int i tk, y], .cons ⟨_, rfl⟩ (.cons ru .nil), ⟨_, hT2, rfl, _, rfl⟩⟩
    have I1 : Inv X pins σ (upd H s.heap.objs.size (.tup [.int (i : Nat), x])) { s with heap := h'', toks := tk + 1 } :=
      I.turnedNew (ch := [e, it]) (fun c oc hc z => (sb.2 c (fun q => hc (by simp [q]))).trans (hk c oc (fun q => hc (by simp [q])) (fun q => hc (by simp [q])) z)) hf (Nat.le_refl _) nw
    refine ⟨.ref s.heap.objs.size, _, I1, rfl, ⟨_, x, rfl, I.hok.fresh (Nat.le_refl _), rfl, fun ys hy => by rw [I.tuple_inj hy hq]; exact hx⟩, ⟨⟨y, ?_⟩, ?_, hne⟩, fun c hc => ?_⟩
    · rw [Int.natCast_add]
      exact he'
    · obtain ⟨o2, e2, c2⟩ := st'.1
      exact ⟨o2, (sb.2 it (Ne.symm hne)).trans e2, c2⟩
    · have hb' : c < s.heap.objs.size := by
        rcases List.mem_cons.mp hc with z | z
        · rw [z]
          exact hel
        · rw [List.mem_singleton.mp z]
          exact hil
      rw [upd_ne (Nat.ne_of_lt hb')]
      exact (hf c hc).1
  done := by
    rintro X rfl rfl rfl hc i pins s σ H E I hf ⟨⟨old, he⟩, hit, hne⟩ ⟨xs, hq, hx⟩
    obtain ⟨its, rv, p, _⟩ := I.tuple hq
    have p : s.heap.IsTuple a its.toArray := p
    obtain ⟨oa, ea, ca, _⟩ := id p
    obtain ⟨oi, ei, ci, _⟩ := id hit
    obtain ⟨f0, f1, f2, f3, f4, f5⟩ := hf it (List.mem_cons_of_mem _ List.mem_cons_self)
    have hl : its.toArray.size = i := by rw [List.size_toArray, ← rv.length, hx]
    exact wpAny_pyNext_enum_endD (tup_draws (show X.A.in1.handled = none from I.ok.hd hc) it a (ne_cls ea ei (by rw [ca, ci]; decide)) its.toArray) he ⟨by rw [hl]; exact hit, p⟩ fun h' eb => ⟨rfl, I.turned (t' := s.toks) (fun c oc hc z => eb c oc hc z) f0 f1 f3 f4 f5⟩
  self := fun A i s Q E ⟨⟨_, he⟩, _⟩ h => wpAny_pyIter_enum he h
section
variable {X : Cx} {b : Bd} {F H : Hp} {G : Gh} {S : Ss} {σ : Sg} {e e2 : Expr} {me mb : M} {elts : List Expr} {kk : Nat} {p pos tpos : Pos}
def iEt (K : PySem.W.Frag) (ta : TA) : TI := fun σ H R => ta σ H fun vs H1 => ∃ a xs, vs = [.ref a] ∧ SqT K H1 a xs ∧ R (Itet K a) H1
theorem pi_et {ta : TA} (hg : Gl X "enumerate") (hm : X.mg "enumerate" = none) (ha : PA X [e] ta) (hs : starEach [e] X.env = [(false, eval e X.env)]) :
    PI X (.Tuple elts kk tpos) (.Call (.Name "enumerate" p) [e] [] pos) (iEt X.K ta) := by
  refine ⟨fun pins s σ H R I h => ?_⟩
  refine Call_ (ld_blt I hg hm boot_enumerate (PyProof.Rows.callWith_type1 (thn (ha.run pos pins s σ H _ I h) fun us s1 ⟨vs, H1, I1, r1, a, xs, ex, hq, q⟩ => ?_) hs rfl))
  subst ex
  obtain ⟨u, rfl, ru⟩ := vals1 r1
  obtain rfl : u = Value.ref a := ru
  obtain ⟨its, rv, p', _⟩ := I1.tuple hq
  refine call_enumT (show s1.heap.IsTuple a its.toArray from p') fun h' he hit hk => wpAny_pyIter_enum he ?_
  have I2 : Inv X pins σ H1 { s1 with heap := h' } := I1.kept (t' := s1.toks) hk
  refine ⟨s1.heap.objs.size + 1, [s1.heap.objs.size + 1, s1.heap.objs.size], _, _, H1, rfl, I2, turn_et a (s1.heap.objs.size + 1) s1.heap.objs.size, ⟨⟨.none, he⟩, hit, Nat.succ_ne_self _⟩, fun c hc => ?_, q⟩
  have hle : s1.heap.objs.size ≤ c := by
    rcases List.mem_cons.mp hc with z | z
    · rw [z]
      exact Nat.le_succ _
    · rw [List.mem_singleton.mp z]
      exact Nat.le_refl _
  exact I1.fpOk hle (I1.hok.fresh hle)
theorem enumL_get : ∀ (l : List D) (k : Int) (i : Nat) (d : D), (enumL k l)[i]? = some d → ∃ x, l[i]? = some x ∧ d = .tup [.int (k + i), x]
  | [], _, _, _, h => by cases h
  | x :: r, k, 0, d, h => by
    cases h
    exact ⟨x, rfl, by simp⟩
  | x :: r, k, i + 1, d, h => by
    obtain ⟨y, h1, h2⟩ := enumL_get r (k + 1) i d h
    refine ⟨y, h1, ?_⟩
    rw [h2, Int.natCast_add]
    have e : k + 1 + (i : Int) = k + ((i : Int) + ((1 : Nat) : Int)) := by omega
    rw [e]
theorem enumL_len : ∀ (l : List D) (k : Int), (enumL k l).length = l.length
  | [], _ => rfl
  | _ :: r, k => congrArg (· + 1) (enumL_len r (k + 1))
theorem yields_et {a : Addr} {l : List D} {vs : List V} (h : SqT b.K F a vs) (r : RepL b F l vs) : Yields b F (enumL 0 l) (Itet b.K a) := fun i F1 G S σ H s rel => by
  have q : SqT b.K H a vs := sqT_up rel.base.sameF (sqT_mono s h)
  refine ⟨fun d e => ?_, fun hi => ⟨vs, q, by rw [← r.len, ← hi, enumL_len]⟩⟩
  obtain ⟨x, hx, rfl⟩ := enumL_get _ _ _ _ e
  obtain ⟨v, e1, e2⟩ := r.get hx
  refine ⟨⟨vs, v, q, e1⟩, fun z H' ⟨T, x', y1, y2, y3, y4⟩ => ?_⟩
  have z' := y4 vs q
  rw [e1] at z'
  cases z'
  rw [y1, y3, Int.zero_add]
  exact ⟨_, same_alloc rel y2, rel.alloc y2, rep_pair (sameNone rel.base.sameF y2) Rep.int' (Rep.mono s x e2)⟩
theorem i_enum (ok : Okb b X) (hg : Gl X "enumerate") (hm : X.mg "enumerate" = none) (he : PE X e (tE b me)) (hs : starEach [e] X.env = [(false, eval e X.env)]) :
    PI X (.Tuple elts kk tpos) (.Call (.Name "enumerate" p) [e] [] pos) (tI b (iEnum me)) := PI_case fun σ H R ⟨F, G, S, l, S', e1, rel, k⟩ => by
  unfold iEnum at e1
  split at e1
  · rename_i l' S1 hm'
    cases e1
    refine ⟨_, pi_et hg hm (pa_cons he pa_nil hs) hs, F, G, S, _, _, hm', rel, fun F1 v H1 s1 r1 h1 => ?_⟩
    rw [Rep] at h1
    obtain ⟨a, vs, rfl, q1, q2⟩ := h1
    rw [← ok.K]
    exact ⟨a, vs, rfl, sqT_up r1.base.sameF q1, k F1 H1 _ s1 r1 (yields_et q1 q2)⟩
  · cases e1
end
/-! ### zip of a list and a tuple -/
theorem five_apart (n : Nat) : [n + 4, n + 2, n + 3, n, n + 1].Nodup := by
  simp only [List.nodup_cons, List.mem_cons, List.not_mem_nil, or_false, not_or, not_false_eq_true, and_true, List.nodup_nil]
  omega
theorem five_old (n a : Nat) (h : a < n) : a ∉ [n + 4, n + 2, n + 3, n, n + 1] := by
  simp only [List.mem_cons, List.not_mem_nil, or_false, not_or]
  omega
theorem five_new (n a : Nat) (h : a ∈ [n + 4, n + 2, n + 3, n, n + 1]) : n ≤ a := by
  simp only [List.mem_cons, List.not_mem_nil, or_false] at h
  omega
theorem meets_zipM (l1 l2 : Addr) (xs ys : Array Value) :
    Meets (Builtin.«zip.__new__» ⟨[.type "zip", .ref l1, .ref l2], []⟩) (fun _ R s => s.heap.IsList l1 xs ∧ s.heap.IsTuple l2 ys ∧
      R (.ok (.ret (.ref (s.heap.objs.size + 4)))) { s with heap := ((((s.heap.push { cls := .type "list_iterator", data := .fields #[.ref l1, .int 0 0] }).push { cls := .type "tuple_iterator", data := .fields #[.ref l2, .int 0 0] }).push
        { cls := .type "tuple", data := .seq #[.ref s.heap.objs.size, .ref (s.heap.objs.size + 1)] }).push { cls := .type "tuple", data := .seq #[.none, .none] }).push { cls := .type "zip", data := .fields #[.none, .bool false, .bool false, .ref (s.heap.objs.size + 2), .ref (s.heap.objs.size + 3)] } }) :=
  .of_wp fun prog w A R s h => by
    obtain ⟨hp, g, d, tk, os⟩ := s
    obtain ⟨hl1, hl2, h⟩ := h
    have hsub := sub_zip
    have hL1 : Heap.IsList (Shared.heap ⟨hp, g, d, tk, os⟩) l1 xs := hl1
    have hL2 : Heap.IsTuple (Shared.heap ⟨hp.push { cls := .type "list_iterator", data := .fields #[.ref l1, .int 0 0] }, g, d, tk, os⟩) l2 ys := Heap.IsTuple.push hl2 _
    wp_walk using wpAny_pyIter_list hL1, wpAny_pyIter_tuple hL2
    refine ⟨_, rfl, ?_⟩
    have z1 : ∀ (h : Heap) (o : Obj), (h.push o).objs.size = h.objs.size + 1 := fun h o => Heap.size_push ..
    simp only [z1]
    exact h
theorem call_zipM {prog : Program} {w : World} {A : Around} {E : Value → Shared → Prop} {s : Shared} {l1 l2 : Addr} {xs ys : Array Value} {Q : Value → Shared → Prop} (hl1 : s.heap.IsList l1 xs) (hl2 : s.heap.IsTuple l2 ys)
    (h : ∀ h', IsZip h' (s.heap.objs.size + 4) (s.heap.objs.size + 2) (s.heap.objs.size + 3) .none → IsTupOf2 h' (s.heap.objs.size + 2) (.ref s.heap.objs.size) (.ref (s.heap.objs.size + 1)) → IsTupOf2 h' (s.heap.objs.size + 3) .none .none →
      h'.IsListIter s.heap.objs.size l1 0 → h'.IsTupleIter (s.heap.objs.size + 1) l2 0 → (∀ c o, s.heap.get? c = some o → h'.get? c = some o) → Q (.ref (s.heap.objs.size + 4)) { s with heap := h' }) :
    wpAny (model prog w) A (call (.type "zip") [.ref l1, .ref l2]) Q E s := by
  refine callType_new PySem.F.called_zip (by decide) (PySem.F.typeCall_zip_2 _ _) (PySem.F.newCall_zip_2 _ _) (fun obj => PySem.F.args_object_init_3 obj _ _) PySem.F.entry_zip_new (meets_zipM l1 l2 xs ys) ⟨hl1, hl2, ?_⟩
  have sz : ∀ (h : Heap) (o : Obj), (h.push o).objs.size = h.objs.size + 1 := fun h o => Heap.size_push ..
  have top : ∀ (h : Heap) (o : Obj) (n : Nat), o.isFreed = false → h.objs.size = n → (h.push o).get? n = some o := fun h o n f e => by
    rw [← e]
    exact Heap.get?_push_size _ f
  have up : ∀ {h : Heap} {c : Addr} {p : Obj} (o : Obj), h.get? c = some p → (h.push o).get? c = some p := fun o e => Heap.get?_push_of_some o e
  have g5 := top _ { cls := .type "zip", data := .fields #[.none, .bool false, .bool false, .ref (s.heap.objs.size + 2), .ref (s.heap.objs.size + 3)] } (s.heap.objs.size + 4) rfl
    (show ((((s.heap.push { cls := .type "list_iterator", data := .fields #[.ref l1, .int 0 0] }).push { cls := .type "tuple_iterator", data := .fields #[.ref l2, .int 0 0] }).push { cls := .type "tuple", data := .seq #[.ref s.heap.objs.size, .ref (s.heap.objs.size + 1)] }).push { cls := .type "tuple", data := .seq #[.none, .none] }).objs.size = _ by simp only [sz])
  refine ⟨⟨_, g5, rfl⟩, h _ g5 (up _ (up _ (top _ _ _ rfl (by simp only [sz])))) (up _ (top _ _ _ rfl (by simp only [sz]))) ⟨_, up _ (up _ (up _ (up _ (top _ _ _ rfl rfl)))), rfl, rfl⟩ ⟨_, up _ (up _ (up _ (top _ _ _ rfl (by simp only [sz])))), rfl, rfl⟩ fun c o x => up _ (up _ (up _ (up _ (up _ x))))⟩
def Itzm (K : PySem.W.Frag) (a c : Addr) : It :=
  ⟨fun i H => ∃ (xs ys : List V) (x y : V), SqL K H a xs ∧ SqT K H c ys ∧ xs[i]? = some x ∧ ys[i]? = some y,
    fun i H v H' => ∃ T x y, v = .ref T ∧ H T = none ∧ H' = upd H T (.tup [x, y]) ∧ (∀ xs, SqL K H a xs → xs[i]? = some x) ∧ ∀ ys, SqT K H c ys → ys[i]? = some y,
    fun i H => ∃ xs ys : List V, SqL K H a xs ∧ SqT K H c ys ∧ i ≤ xs.length ∧ i ≤ ys.length ∧ (xs.length = i ∨ ys.length = i)⟩
theorem turn_zm {P : Program} {w : World} {K : PySem.W.Frag} {elts : List Expr} {kk : Nat} {tpos : Pos} {a c z TI TO i1 i2 : Addr} (n : [z, TI, TO, i1, i2].Nodup) :
    Turn P w K (.Tuple elts kk tpos) (Itzm K a c) [z, TI, TO, i1, i2] z (fun i h => IsZip h z TI TO .none ∧ IsTupOf2 h TI (.ref i1) (.ref i2) ∧ (∃ x y, IsTupOf2 h TO x y) ∧ h.IsListIter i1 a i ∧ h.IsTupleIter i2 c i ∧ a ∉ [z, TI, TO, i1, i2] ∧ c ∉ [z, TI, TO, i1, i2]) where
  mem := List.mem_cons_self
  obj := fun i h st b hb => by
    obtain ⟨hz, hTI, ⟨x, y, hTO⟩, ⟨o1, e1, _, d1⟩, ⟨o2, e2, _, d2⟩, _⟩ := st
    simp only [List.mem_cons, List.not_mem_nil, or_false] at hb
    rcases hb with q | q | q | q | q
    · rw [q]; exact ⟨_, hz, fun v q => nomatch q⟩
    · rw [q]; exact ⟨_, hTI, fun v q => nomatch q⟩
    · rw [q]; exact ⟨_, hTO, fun v q => nomatch q⟩
    · rw [q]; exact ⟨o1, e1, fun v q => by rw [d1] at q; cases q⟩
    · rw [q]; exact ⟨o2, e2, fun v q => by rw [d2] at q; cases q⟩
  keep := fun i h h' ⟨hz, hTI, ⟨x, y, hTO⟩, ⟨o1, e1, r1⟩, ⟨o2, e2, r2⟩, m⟩ k => ⟨k z (by simp) _ hz, k TI (by simp) _ hTI, ⟨x, y, k TO (by simp) _ hTO⟩, ⟨o1, k i1 (by simp) _ e1, r1⟩, ⟨o2, k i2 (by simp) _ e2, r2⟩, m⟩
  item := by
    rintro X rfl rfl rfl hc i pins s σ H E I hf ⟨hz, hTI, ⟨x0, y0, hTO⟩, h1, h2, m1, m2⟩ ⟨xs, ys, x, y, hqx, hqy, hx, hy⟩
    obtain ⟨its, rv, p1, _⟩ := I.list hqx
    obtain ⟨its2, rv2, p2, _⟩ := I.tuple hqy
    have p2 : s.heap.IsTuple c its2.toArray := p2
    obtain ⟨u, hu, ru⟩ := rv.get hx
    obtain ⟨u2, hu2, ru2⟩ := rv2.get hy
    simp only [List.nodup_cons, List.mem_cons, List.not_mem_nil, or_false, not_or, not_false_eq_true, and_true, List.nodup_nil] at n m1 m2
    obtain ⟨⟨n1, n2, n3, n4⟩, ⟨n5, n6, n7⟩, ⟨n8, n9⟩, n10⟩ := n
    obtain ⟨a1, a2, a3, a4, a5⟩ := m1
    obtain ⟨c1, c2, c3, c4, c5⟩ := m2
    have hh : X.A.in1.handled = none := I.ok.hd hc
    have sep : ZipSep2 z TI TO i1 i2 [i1, a] [i2, c] := ⟨Ne.symm n1, Ne.symm n2, n5, n6, by simp, by simp [n3, Ne.symm a1], by simp [n8, Ne.symm a3], n7, by simp, by simp [n4, Ne.symm c1], by simp [n9, Ne.symm c3], by simp [n10, Ne.symm c4], by simp [Ne.symm n10, Ne.symm a5]⟩
    refine wpAny_pyNext_zipD2_item sep (Draws.list hh i1 a a4 its.toArray) (tup_draws hh i2 c c5 its2.toArray) hz hTI hTO ⟨h1, p1.isList⟩ ⟨h2, p2⟩ (by simpa using (List.getElem?_eq_some_iff.mp hu).1) (by simpa using (List.getElem?_eq_some_iff.mp hu2).1) fun w1 w2 h' tk y1 y2 hz' hTO' st1 st2 hT hsz hk => ?_
    have e1 : w1 = u := by
      have y1 : its.toArray[i]? = some w1 := y1
      rw [List.getElem?_toArray, hu] at y1
      cases y1
      rfl
    have e2 : w2 = u2 := by
      have y2 : its2.toArray[i]? = some w2 := y2
      rw [List.getElem?_toArray, hu2] at y2
      cases y2
      rfl
    subst e1 e2
    have hzl : z < s.heap.objs.size := Heap.lt_size hz
    refine ⟨_, rfl, wpAny_letOwnedTupleGo_zip (s := { s with heap := h', toks := tk }) hz' fun h'' z'' sb => ?_⟩
    have hT2 : h''.get? s.heap.objs.size = some { cls := .type "tuple", data := .seq #[w1, w2] } := (sb.2 _ (Nat.ne_of_gt hzl)).trans hT
    have nw : ObjOk X.prog X.w (upd H s.heap.objs.size (.tup [x, y])) h'' s.heap.objs.size (.tup [x, y]) := ⟨line_le (n := 2) (by decide), [w1, w2], .cons ru (.cons ru2 .nil), ⟨_, hT2, rfl, _, rfl⟩⟩
    have I1 : Inv X pins σ (upd H s.heap.objs.size (.tup [x, y])) { s with heap := h'', toks := tk } :=
      I.turnedNew (ch := [z, TI, TO, i1, i2]) (fun d o hb q => (sb.2 d (fun q' => hb (by simp [q']))).trans (hk d o (fun q' => hb (by simp [q'])) (fun q' => hb (by simp [q'])) (fun q' => hb (by simp [q'])) (fun q' => hb (by simp [q'])) q)) hf (Nat.le_refl _) nw
    obtain ⟨o1, g1, r1⟩ := st1.1
    obtain ⟨o2, g2, r2⟩ := st2.1
    refine ⟨.ref s.heap.objs.size, _, I1, rfl, ⟨_, x, y, rfl, I.hok.fresh (Nat.le_refl _), rfl, fun l hl => by rw [I.list_inj hl hqx]; exact hx, fun l hl => by rw [I.tuple_inj hl hqy]; exact hy⟩,
      ⟨z'', (sb.2 _ (Ne.symm n1)).trans (hk _ _ (Ne.symm n1) n5 n6 n7 hTI), ⟨w1, w2, (sb.2 _ (Ne.symm n2)).trans hTO'⟩, ⟨o1, (sb.2 _ (Ne.symm n3)).trans g1, r1⟩, ⟨o2, (sb.2 _ (Ne.symm n4)).trans g2, r2⟩, by simp [a1, a2, a3, a4, a5], by simp [c1, c2, c3, c4, c5]⟩, fun d hcm => ?_⟩
    have hlt : d < s.heap.objs.size := by
      obtain ⟨q1, g1, _⟩ := h1
      obtain ⟨q2, g2, _⟩ := h2
      simp only [List.mem_cons, List.not_mem_nil, or_false] at hcm
      rcases hcm with q | q | q | q | q
      · rw [q]; exact hzl
      · rw [q]; exact Heap.lt_size hTI
      · rw [q]; exact Heap.lt_size hTO
      · rw [q]; exact Heap.lt_size g1
      · rw [q]; exact Heap.lt_size g2
    rw [upd_ne (Nat.ne_of_lt hlt)]
    exact (hf d hcm).1
  done := by
    rintro X rfl rfl rfl hc i pins s σ H E I hf ⟨hz, hTI, ⟨x0, y0, hTO⟩, h1, h2, m1, m2⟩ ⟨xs, ys, hqx, hqy, l1, l2, hend⟩
    obtain ⟨its, rv, p1, _⟩ := I.list hqx
    obtain ⟨its2, rv2, p2, _⟩ := I.tuple hqy
    have p2 : s.heap.IsTuple c its2.toArray := p2
    simp only [List.nodup_cons, List.mem_cons, List.not_mem_nil, or_false, not_or, not_false_eq_true, and_true, List.nodup_nil] at n m1 m2
    obtain ⟨⟨n1, n2, n3, n4⟩, ⟨n5, n6, n7⟩, ⟨n8, n9⟩, n10⟩ := n
    obtain ⟨a1, a2, a3, a4, a5⟩ := m1
    obtain ⟨c1, c2, c3, c4, c5⟩ := m2
    have hh : X.A.in1.handled = none := I.ok.hd hc
    have sep : ZipSep2 z TI TO i1 i2 [i1, a] [i2, c] := ⟨Ne.symm n1, Ne.symm n2, n5, n6, by simp, by simp [n3, Ne.symm a1], by simp [n8, Ne.symm a3], n7, by simp, by simp [n4, Ne.symm c1], by simp [n9, Ne.symm c3], by simp [n10, Ne.symm c4], by simp [Ne.symm n10, Ne.symm a5]⟩
    have e1 : its.toArray.size = xs.length := by rw [List.size_toArray, rv.length]
    have e2 : its2.toArray.size = ys.length := by rw [List.size_toArray, rv2.length]
    refine wpAny_pyNext_zipD2_end sep (Draws.list hh i1 a a4 its.toArray) (tup_draws hh i2 c c5 its2.toArray) hz hTI hTO ⟨h1, p1.isList⟩ ⟨h2, p2⟩ (by omega) (by omega) (by omega) fun h' tk hk => ⟨rfl, I.turnedL (ch := [z, TI, TO, i1, i2]) (fun d o hb q =>
      hk d o (fun q' => hb (by simp [q'])) (fun q' => hb (by simp [q'])) (fun q' => hb (by simp [q'])) (fun q' => hb (by simp [q'])) q) hf⟩
  self := fun A i s Q E st h => wpAny_pyIter_zip st.1 h
section
variable {X : Cx} {b : Bd} {F H : Hp} {G : Gh} {S : Ss} {σ : Sg} {e e2 : Expr} {me mb : M} {elts : List Expr} {kk : Nat} {p pos tpos : Pos}
def iZm (K : PySem.W.Frag) (ta : TA) : TI := fun σ H R => ta σ H fun vs H1 => ∃ a c xs ys, vs = [.ref a, .ref c] ∧ SqL K H1 a xs ∧ SqT K H1 c ys ∧ R (Itzm K a c) H1
theorem pi_zm {ta : TA} (hg : Gl X "zip") (hm : X.mg "zip" = none) (ha : PA X [e, e2] ta) (hs : starEach [e, e2] X.env = (false, eval e X.env) :: starEach [e2] X.env) (hpl : (backTo pos (starEach [e2] X.env)).any (·.1) = false) :
    PI X (.Tuple elts kk tpos) (.Call (.Name "zip" p) [e, e2] [] pos) (iZm X.K ta) := by
  refine ⟨fun pins s σ H R I h => ?_⟩
  refine Call_ (ld_blt I hg hm PyProof.Rows.boot_zip (PyProof.Rows.callWith_type1 (thn (ha.run pos pins s σ H _ I h) fun us s1 ⟨vs, H1, I1, r1, a, c, xs, ys, ex, hqx, hqy, q⟩ => ?_) hs hpl))
  subst ex
  obtain ⟨u1, u2, rfl, r1, r2⟩ := vals2 r1
  obtain rfl : u1 = Value.ref a := r1
  obtain rfl : u2 = Value.ref c := r2
  obtain ⟨its, rv, p1, _⟩ := I1.list hqx
  obtain ⟨its2, rv2, p2, _⟩ := I1.tuple hqy
  have p2 : s1.heap.IsTuple c its2.toArray := p2
  have la : a < s1.heap.objs.size := p1.lt
  have lc : c < s1.heap.objs.size := by
    obtain ⟨o, ho, _⟩ := id p2
    exact Heap.lt_size ho
  refine call_zipM p1.isList p2 fun h' hz hTI hTO h1 h2 hk => wpAny_pyIter_zip hz ?_
  have I2 : Inv X pins σ H1 { s1 with heap := h' } := I1.kept (t' := s1.toks) hk
  refine ⟨s1.heap.objs.size + 4, [s1.heap.objs.size + 4, s1.heap.objs.size + 2, s1.heap.objs.size + 3, s1.heap.objs.size, s1.heap.objs.size + 1], _, _, H1, rfl, I2, turn_zm (five_apart _), ⟨hz, hTI, ⟨_, _, hTO⟩, h1, h2, five_old _ _ la, five_old _ _ lc⟩, fun d hd => ?_, q⟩
  have hle : s1.heap.objs.size ≤ d := five_new _ _ hd
  exact I1.fpOk hle (I1.hok.fresh hle)
theorem yields_pairs {l m : List D} {vs us : List V} {J : It} (hgo : ∀ i F1 H x y, Same F F1 → Same F1 H → vs[i]? = some x → us[i]? = some y → J.go i H) (hy : ∀ i F1 H v H' x y, Same F F1 → Same F1 H → J.yld i H v H' → vs[i]? = some x → us[i]? = some y → ∃ T, v = .ref T ∧ H T = none ∧ H' = upd H T (.tup [x, y]))
    (hst : ∀ i F1 H, Same F F1 → Same F1 H → i = min vs.length us.length → J.stop i H) (r : RepL b F l vs) (q : RepL b F m us) : Yields b F (pairs l m) J := fun i F1 G S σ H s rel => by
  refine ⟨fun d e => ?_, fun hi => hst i F1 H s rel.base.sameF (by rw [← hi, pairs_len, r.len, q.len])⟩
  obtain ⟨x, y, hx, hy', rfl⟩ := pairs_get _ _ _ _ e
  obtain ⟨u, u1, u2⟩ := r.get hx
  obtain ⟨v, v1, v2⟩ := q.get hy'
  refine ⟨hgo i F1 H u v s rel.base.sameF u1 v1, fun z H' yz => ?_⟩
  obtain ⟨T, rfl, y4, rfl⟩ := hy i F1 H z H' u v s rel.base.sameF yz u1 v1
  exact ⟨_, same_alloc rel y4, rel.alloc y4, rep_pair (sameNone rel.base.sameF y4) (Rep.mono s x u2) (Rep.mono s y v2)⟩
theorem i_zip (ok : Okb b X) (hg : Gl X "zip") (hm : X.mg "zip" = none) (he : PE X e (tE b me)) (he2 : PE X e2 (tE b mb)) (hs : starEach [e, e2] X.env = (false, eval e X.env) :: starEach [e2] X.env) (hs2 : starEach [e2] X.env = (false, eval e2 X.env) :: starEach [] X.env) (hpl : (backTo pos (starEach [e2] X.env)).any (·.1) = false) :
    PI X (.Tuple elts kk tpos) (.Call (.Name "zip" p) [e, e2] [] pos) (tI b (iZip me mb)) := PI_case fun σ H R ⟨F, G, S, l, S', e1, rel, k⟩ => by
  have ha : PA X [e, e2] _ := pa_cons he (pa_cons he2 pa_nil hs2) hs
  unfold iZip at e1
  split at e1
  · rename_i x S1 hx
    split at e1
    · rename_i y S2 hy
      split at e1
      · cases e1
        refine ⟨_, RZ.pi_zipA hg hm ha hs hpl, F, G, S, _, _, hx, rel, fun F1 v H1 s1 r1 h1 => ⟨F1, G, _, _, _, hy, r1, fun F2 u H2 s2 r2 h2 => ?_⟩⟩
        have h1 := Rep.mono s2 _ h1
        rw [Rep] at h1 h2
        obtain ⟨a, vs, rfl, q1, q2⟩ := h1
        obtain ⟨c, us, rfl, q3, q4⟩ := h2
        rw [← ok.K]
        have la : ∀ {a : Addr} {vs : List V}, F2 a = some (.lst vs) → ∀ F1 H, Same F2 F1 → Same F1 H → SqL b.K H a vs := fun q F1 H s t => .inl (.inl (t _ _ (s _ _ q)))
        refine ⟨a, c, vs, us, rfl, .inl ⟨la q1 _ _ (Same.refl _) r2.base.sameF, la q3 _ _ (Same.refl _) r2.base.sameF, k F2 H2 _ (s1.trans s2) r2 (yields_pairs (fun i F1 H x y s t e1 e2 => ⟨vs, us, x, y, la q1 _ _ s t, la q3 _ _ s t, e1, e2⟩) (fun i F1 H v H' x y s t ⟨T, x', y', z1, z2, z3, z4, z5⟩ e1 e2 => ?_) (fun i F1 H s t hi => ⟨vs, us, la q1 _ _ s t, la q3 _ _ s t, by omega⟩) q2 q4)⟩⟩
        have w1 := z4 vs (la q1 _ _ s t)
        have w2 := z5 us (la q3 _ _ s t)
        rw [e1] at w1
        rw [e2] at w2
        cases w1
        cases w2
        exact ⟨T, z1, z2, z3⟩
      · cases e1
        refine ⟨_, RZ.pi_zipA hg hm ha hs hpl, F, G, S, _, _, hx, rel, fun F1 v H1 s1 r1 h1 => ⟨F1, G, _, _, _, hy, r1, fun F2 u H2 s2 r2 h2 => ?_⟩⟩
        have h1 := Rep.mono s2 _ h1
        rw [Rep] at h1 h2
        obtain ⟨a, vs, rfl, q1, q2⟩ := h1
        obtain ⟨c, us, rfl, q3, q4⟩ := h2
        rw [← ok.K]
        have la : ∀ {a : Addr} {vs : List V}, SqT b.K F2 a vs → ∀ F1 H, Same F2 F1 → Same F1 H → SqT b.K H a vs := fun q F1 H s t => sqT_mono t (sqT_mono s q)
        refine ⟨a, c, vs, us, rfl, .inr ⟨la q1 _ _ (Same.refl _) r2.base.sameF, la q3 _ _ (Same.refl _) r2.base.sameF, k F2 H2 _ (s1.trans s2) r2 (yields_pairs (fun i F1 H x y s t e1 e2 => ⟨vs, us, x, y, la q1 _ _ s t, la q3 _ _ s t, e1, e2⟩) (fun i F1 H v H' x y s t ⟨T, x', y', z1, z2, z3, z4, z5⟩ e1 e2 => ?_) (fun i F1 H s t hi => ⟨vs, us, la q1 _ _ s t, la q3 _ _ s t, by omega⟩) q2 q4)⟩⟩
        have w1 := z4 vs (la q1 _ _ s t)
        have w2 := z5 us (la q3 _ _ s t)
        rw [e1] at w1
        rw [e2] at w2
        cases w1
        cases w2
        exact ⟨T, z1, z2, z3⟩
      · cases e1
        refine ⟨_, pi_zm hg hm ha hs hpl, F, G, S, _, _, hx, rel, fun F1 v H1 s1 r1 h1 => ⟨F1, G, _, _, _, hy, r1, fun F2 u H2 s2 r2 h2 => ?_⟩⟩
        have h1 := Rep.mono s2 _ h1
        rw [Rep] at h1
        rw [Rep] at h2
        obtain ⟨a, vs, rfl, q1, q2⟩ := h1
        obtain ⟨c, us, rfl, q3, q4⟩ := h2
        rw [← ok.K]
        have la : ∀ {a : Addr} {vs : List V}, F2 a = some (.lst vs) → ∀ F1 H, Same F2 F1 → Same F1 H → SqL b.K H a vs := fun q F1 H s t => .inl (.inl (t _ _ (s _ _ q)))
        have lt : ∀ {a : Addr} {vs : List V}, SqT b.K F2 a vs → ∀ F1 H, Same F2 F1 → Same F1 H → SqT b.K H a vs := fun q F1 H s t => sqT_mono t (sqT_mono s q)
        refine ⟨a, c, vs, us, rfl, la q1 _ _ (Same.refl _) r2.base.sameF, lt q3 _ _ (Same.refl _) r2.base.sameF, k F2 H2 _ (s1.trans s2) r2 (yields_pairs (fun i F1 H x y s t e1 e2 => ⟨vs, us, x, y, la q1 _ _ s t, lt q3 _ _ s t, e1, e2⟩) (fun i F1 H v H' x y s t ⟨T, x', y', z1, z2, z3, z4, z5⟩ e1 e2 => ?_) (fun i F1 H s t hi => ⟨vs, us, la q1 _ _ s t, lt q3 _ _ s t, by omega, by omega, by omega⟩) q2 q4)⟩
        have w1 := z4 vs (la q1 _ _ s t)
        have w2 := z5 us (lt q3 _ _ s t)
        rw [e1] at w1
        rw [e2] at w2
        cases w1
        cases w2
        exact ⟨T, z1, z2, z3⟩
      · cases e1
    · cases e1
  · cases e1
end
end Tee
set_option maxRecDepth 100000
set_option maxHeartbeats 4000000
/-! Loops, list comprehensions. -/
namespace Tee
open PySem PySem.Spec PyProof.Rows L2
section
variable {X : Cx} {b : Bd} {W : Sg → Hp → Prop} {F F1 H : Hp} {G : Gh} {S : Ss} {σ : Sg} {D1 D2 : Ends}
variable {tg iter c e : Expr} {body : List Stmt} {src : L} {bd : B} {mc me : M} {pos : Pos} {p : Pt}
theorem drop_step {l : List D} {i : Nat} (h : i < l.length) : ∃ d, l[i]? = some d ∧ l.drop i = d :: l.drop (i + 1) := ⟨l[i], List.getElem?_eq_getElem h, List.drop_eq_getElem_cons h⟩
theorem for_w : tS b W (sFor p src bd) D1 σ H → tFor (tI b src) (tGn b 4 p) (tS b W bd) D1 σ H := fun ⟨F, G, S, rel, h⟩ => by
  unfold sFor at h
  cases hs : src S with
  | no =>
    rw [hs] at h
    exact h.elim
  | go l S1 =>
    rw [hs] at h
    have h : After b W D1 F G (forGo p bd l S1) := h
    refine ⟨F, G, S, l, S1, hs, rel, fun F1 H1 J s1 r1 y => ?_⟩
    refine ⟨fun i m σ H => m = l.length - i ∧ i ≤ l.length ∧ ∃ F2 S2, Same F1 F2 ∧ Rel b F2 G S2 σ H ∧ After b W D1 F2 G (forGo p bd (l.drop i) S2), ⟨_, rfl, Nat.zero_le _, F1, S1, Same.refl F1, r1, h.up s1⟩, ?_⟩
    rintro i m σ2 H2 ⟨rfl, hi, F2, S2, s2, r2, h2⟩
    obtain ⟨y1, y2⟩ := y i F2 G S2 σ2 H2 s2 r2
    by_cases hlt : i < l.length
    · obtain ⟨d, e1, e2⟩ := drop_step hlt
      obtain ⟨y3, y4⟩ := y1 d e1
      rw [e2, forGo] at h2
      cases hb : bind p d S2 with
      | none =>
        rw [hb] at h2
        exact h2.elim
      | some S3 =>
        rw [hb] at h2
        dsimp only at h2
        refine .inr ⟨y3, fun σ' H' => ∃ F3 S3, Same F1 F3 ∧ Rel b F3 G S3 σ' H' ∧ After b W D1 F3 G (forGo p bd (l.drop (i + 1)) S3), fun σ' H' q => ⟨l.length - (i + 1), by omega, rfl, hlt, q⟩, fun x H' yx => ?_⟩
        obtain ⟨F3, s3, r3, h3⟩ := y4 x H' yx
        refine ⟨F3, G, S2, d, S3, hb, r3, h3, fun F4 σ4 H4 s4 r4 _ => ⟨F4, G, S3, r4, ?_⟩⟩
        have s24 := s3.trans s4
        have s14 := s2.trans s24
        cases hbd : bd S3 with
        | no =>
          rw [hbd] at h2
          exact h2
        | nx S4 =>
          rw [hbd] at h2
          exact fun F5 σ5 H5 s5 r5 => ⟨F5, S4, s14.trans s5, r5, After.up h2 (s24.trans s5)⟩
        | ct S4 =>
          rw [hbd] at h2
          exact fun F5 σ5 H5 s5 r5 => ⟨F5, S4, s14.trans s5, r5, After.up h2 (s24.trans s5)⟩
        | bk S4 =>
          rw [hbd] at h2
          exact fun F5 σ5 H5 s5 r5 => h2 F5 σ5 H5 (s24.trans s5) r5
        | rt d =>
          rw [hbd] at h2
          exact fun F5 v H5 s5 r5 q => h2 F5 v H5 (s24.trans s5) r5 q
        | ex =>
          rw [hbd] at h2
          exact fun F5 σ5 H5 s5 r5 => h2 F5 σ5 H5 (s24.trans s5) r5
    · have e : i = l.length := by omega
      subst e
      rw [List.drop_length, forGo] at h2
      exact .inl ⟨y2 rfl, h2 F2 σ2 H2 (Same.refl F2) r2⟩
/-- for .. in .. -/
theorem q_for (hp : PassesOwn (model X.prog X.w) X.A X.env X.xe) (ok : Okb b X) (hi : PI X tg iter (tI b src)) (hg : PG X tg (tGn b 4 p)) (hb : PSs X body (tS b W bd)) (hs : ∀ x, foldedSetIterable iter X.env x = pure x) : PS X (.For tg iter body [] pos) (tS b W (sFor p src bd)) :=
  (ps_for hp ok.calm hi hg hb hs).weak fun _ _ _ q => for_w q
theorem while_w {n : Nat} : tS b W (sWh n mc bd) D1 σ H → tWhile (tT b mc) (tS b W bd) D1 σ H := fun ⟨F, G, S, rel, h⟩ => by
  refine ⟨fun m σ H => ∃ F2 S2, Rel b F2 G S2 σ H ∧ Same F F2 ∧ After b W D1 F2 G (whGo mc bd m S2), ⟨n, F, S, rel, Same.refl F, h⟩, ?_⟩
  rintro m σ2 H2 ⟨F2, S2, r2, s2, h2⟩
  cases m with
  | zero => exact h2.elim
  | succ m =>
    rw [whGo] at h2
    split at h2
    · rename_i S3 hc
      refine ⟨F2, G, S2, true, S3, hc, r2, fun F3 H3 s3 r3 => iteT ?_⟩
      refine ⟨fun σ' H' => ∃ F2 S2, Rel b F2 G S2 σ' H' ∧ Same F F2 ∧ After b W D1 F2 G (whGo mc bd m S2), fun σ' H' q => ⟨m, Nat.lt_succ_self m, q⟩, F3, G, S3, r3, ?_⟩
      cases hbd : bd S3 with
      | no =>
        rw [hbd] at h2
        exact h2
      | nx S4 =>
        rw [hbd] at h2
        exact fun F5 σ5 H5 s5 r5 => ⟨F5, S4, r5, (s2.trans s3).trans s5, After.up h2 (s3.trans s5)⟩
      | ct S4 =>
        rw [hbd] at h2
        exact fun F5 σ5 H5 s5 r5 => ⟨F5, S4, r5, (s2.trans s3).trans s5, After.up h2 (s3.trans s5)⟩
      | bk S4 =>
        rw [hbd] at h2
        exact fun F5 σ5 H5 s5 r5 => h2 F5 σ5 H5 (s3.trans s5) r5
      | rt d =>
        rw [hbd] at h2
        exact fun F5 v H5 s5 r5 q => h2 F5 v H5 (s3.trans s5) r5 q
      | ex =>
        rw [hbd] at h2
        exact fun F5 σ5 H5 s5 r5 => h2 F5 σ5 H5 (s3.trans s5) r5
    · rename_i S3 hc
      exact ⟨F2, G, S2, false, S3, hc, r2, fun F3 H3 s3 r3 => iteF (h2 F3 σ2 H3 s3 r3)⟩
    · exact h2.elim
theorem q_while {n : Nat} (hp : PassesOwn (model X.prog X.w) X.A X.env X.xe) (hc : PT X c (tT b mc)) (hb : PSs X body (tS b W bd)) : PS X (.While c body [] pos) (tS b W (sWh n mc bd)) := (ps_while hp hc hb).weak fun _ _ _ q => while_w q
/-! ### comprehensions -/
theorem wipeS_len : ∀ (vs : List Nat) (S : Ss), (wipeS vs S).length = S.length
  | [], _ => rfl
  | i :: r, S => by rw [wipeS, wipeS_len r, len_sets]
theorem wipeS_out : ∀ (vs : List Nat) (S : Ss) (j : Nat), j ∉ vs → gets (wipeS vs S) j = gets S j
  | [], _, _, _ => rfl
  | i :: r, S, j, h => by
    rw [wipeS, wipeS_out r _ j fun z => h (List.mem_cons_of_mem _ z)]
    exact gets_ne _ _ _ _ fun z => h (by rw [z]; exact List.mem_cons_self)
theorem gets_no (S : Ss) (i : Nat) : gets (sets S i .no) i = .no := by
  by_cases h : i < S.length
  · exact gets_same S i _ h
  · exact gets_out _ _ (by rw [len_sets]; exact h)
theorem wipeS_in : ∀ (vs : List Nat) (S : Ss) (j : Nat), j ∈ vs → gets (wipeS vs S) j = .no
  | i :: r, S, j, h => by
    rw [wipeS]
    by_cases hr : j ∈ r
    · exact wipeS_in r _ j hr
    · rw [wipeS_out r _ j hr]
      rcases List.mem_cons.mp h with rfl | h
      · exact gets_no S j
      · exact absurd h hr
/-- slots forgotten, or never known -/
theorem Rel.less {S' : Ss} {σ' : Sg} (r : Rel b F G S σ H) (h1 : S'.length = σ'.length) (h : ∀ j, gets S' j = .no ∨ (gets S' j = gets S j ∧ σ'[j]? = σ[j]?)) : Rel b F G S' σ' H := by
  have live : ∀ j a, LiveAt S' σ' j a → LiveAt S σ j a := fun j a ⟨l1, l2⟩ => by
    rcases h j with z | ⟨z1, z2⟩
    · rw [z] at l1
      cases l1
    · rw [z1] at l1
      rw [z2] at l2
      exact ⟨l1, l2⟩
  refine ⟨r.base, h1, fun j => ?_, fun i j a x y => r.apart i j a (live i a x) (live j a y), fun g hg i x => r.apartG g hg i (live i _ x)⟩
  rcases h j with z | ⟨z1, z2⟩
  · rw [z]
    exact True.intro
  · rw [z1, z2]
    exact r.slots j
theorem Rel.wiped (r : Rel b F G S σ H) (vs : List Nat) : Rel b F G (wipeS vs S) (wipe σ vs) H := r.less (by rw [wipeS_len, wipe_length, r.len]) fun j => by
  by_cases h : j ∈ vs
  · exact .inl (wipeS_in vs S j h)
  · exact .inr ⟨wipeS_out vs S j h, wipe_out h⟩
theorem Rel.unwiped {vs : List Nat} (r : Rel b F G S (wipe σ vs) H) (n : ∀ j ∈ vs, gets S j = .no) : Rel b F G S σ H := r.less (by rw [r.len, wipe_length]) fun j => by
  by_cases h : j ∈ vs
  · exact .inl (n j h)
  · exact .inr ⟨rfl, (wipe_out h).symm⟩
theorem wipe_in {j : Nat} : ∀ {vs : List Nat} {σ : Sg}, j ∈ vs → (wipe σ vs)[j]? = if j < σ.length then some none else none
  | i :: r, σ, h => by
    rw [wipe, List.getElem?_set]
    by_cases e : i = j
    · rw [if_pos e, wipe_length, e]
    · rw [if_neg e]
      rcases List.mem_cons.mp h with z | h
      · exact absurd z.symm e
      · exact wipe_in h
theorem wipe_eq {vs : List Nat} {σ σ' : Sg} (l : σ'.length = σ.length) (h : ∀ j, j ∉ vs → σ'[j]? = (wipe σ vs)[j]?) : wipe σ' vs = wipe σ vs := by
  refine List.ext_getElem? fun j => ?_
  by_cases e : j ∈ vs
  · rw [wipe_in e, wipe_in e, l]
  · rw [wipe_out e, h j e]
def tO (b : Bd) : Option M → TT
  | none => tYes
  | some c => tT b c
theorem lc_w {vs : List Nat} {oc : Option M} (hsub : subN 4 p vs = true) {Q : VK} : tE b (eLC p vs src oc me) σ H Q → tLc (tI b src) (tGn b 4 p) (tO b oc) (tE b me) vs σ H Q := fun ⟨F, G, S, d, S', ee, rel, k⟩ => by
  unfold eLC at ee
  cases hs : src S with
  | no =>
    rw [hs] at ee
    cases ee
  | go l S1 =>
    rw [hs] at ee
    dsimp only at ee
    split at ee
    · rename_i hf
      cases hl : lcGo p vs oc me l (wipeS vs S1) with
      | no =>
        rw [hl] at ee
        cases ee
      | go r S2 =>
        rw [hl] at ee
        cases ee
        refine ⟨F, G, S, l, S1, hs, rel, fun F1 H1 J s1 r1 y Dp hD => ?_⟩
        have few := few_le hf
        have ne0 : ∀ q ∈ G, q.1 ≠ Dp := ghost_ne r1 hD
        refine ⟨fun i m H => m = l.length - i ∧ i ≤ l.length ∧ ∃ F2 S2 ds acc rest, Same F1 F2 ∧ Rel b F2 ((Dp, .lst acc) :: G) S2 (wipe σ vs) H ∧ RepL b F2 ds acc ∧ ds.length ≤ i ∧ lcGo p vs oc me (l.drop i) S2 = .go rest S' ∧ ds ++ rest = r ∧ ∀ j ∈ vs, gets S2 j = .no,
          ⟨_, rfl, Nat.zero_le _, F1, _, [], [], r, Same.refl F1, (r1.ghost hD (fun a z => by cases z)).wiped vs, RepL.nil', Nat.le_refl _, hl, rfl, fun j hj => wipeS_in vs S1 j hj⟩, ?_⟩
        rintro i m H2 ⟨rfl, hi, F2, S2, ds, acc, rest, s2, r2, hds, hlen, h2, hr, hno⟩
        obtain ⟨y1, y2⟩ := y i F2 _ S2 _ H2 s2 r2
        by_cases hlt : i < l.length
        · obtain ⟨d, e1, e2⟩ := drop_step hlt
          obtain ⟨y3, y4⟩ := y1 d e1
          rw [e2, lcGo] at h2
          cases hb : bind p d S2 with
          | none =>
            rw [hb] at h2
            cases h2
          | some S3 =>
            rw [hb] at h2
            dsimp only at h2
            refine .inr ⟨y3, fun H' => ∃ F3 S3 ds acc rest, Same F1 F3 ∧ Rel b F3 ((Dp, .lst acc) :: G) S3 (wipe σ vs) H' ∧ RepL b F3 ds acc ∧ ds.length ≤ i + 1 ∧ lcGo p vs oc me (l.drop (i + 1)) S3 = .go rest S' ∧ ds ++ rest = r ∧ ∀ j ∈ vs, gets S3 j = .no,
              fun H' q => ⟨l.length - (i + 1), by omega, rfl, hlt, q⟩, fun x H' yx => ?_⟩
            obtain ⟨F3, s3, r3, h3⟩ := y4 x H' yx
            refine ⟨F3, _, S2, d, S3, hb, r3, h3, fun F4 σ4 H4 s4 r4 off => ?_⟩
            have s14 := s2.trans (s3.trans s4)
            have hw : wipe σ4 vs = wipe σ vs := wipe_eq (by rw [off.1, wipe_length]) (off.2 vs hsub)
            refine ⟨hw, ?_⟩
            -- an item more
            have more : ∀ {S4 : Ss} {F5 : Hp} {H5 : Hp}, Same F4 F5 → Rel b F5 ((Dp, .lst acc) :: G) S4 σ4 H5 → (match me S4 with
                | .go y S5 => match lcGo p vs oc me (l.drop (i + 1)) (wipeS vs S5) with
                  | .go l S6 => Lr.go (y :: l) S6
                  | .no => .no
                | .no => .no) = .go rest S' → tE b me σ4 H5 fun y H6 => ∃ acc, H6 Dp = some (.lst acc) ∧ acc.length < sizeLine ∧ ∃ F3 S3 ds acc' rest, Same F1 F3 ∧ Rel b F3 ((Dp, .lst acc') :: G) S3 (wipe σ vs) (upd H6 Dp (.lst (acc ++ [y]))) ∧ RepL b F3 ds acc' ∧ ds.length ≤ i + 1 ∧ lcGo p vs oc me (l.drop (i + 1)) S3 = .go rest S' ∧ ds ++ rest = r ∧ ∀ j ∈ vs, gets S3 j = .no := by
              intro S4 F5 H5 s5 r5 h5
              cases hm : me S4 with
              | no =>
                rw [hm] at h5
                cases h5
              | go y S5 =>
                rw [hm] at h5
                dsimp only at h5
                cases hl2 : lcGo p vs oc me (l.drop (i + 1)) (wipeS vs S5) with
                | no =>
                  rw [hl2] at h5
                  cases h5
                | go l2 S6 =>
                  rw [hl2] at h5
                  cases h5
                  refine ⟨F5, _, S4, y, S5, hm, r5, fun F6 v H6 s6 r6 h6 => ?_⟩
                  have la : acc.length = ds.length := hds.len.symm
                  refine ⟨acc, (r6.base.gh _ List.mem_cons_self).1, line_lt (by omega), F6, wipeS vs S5, ds ++ [y], acc ++ [v], l2, s14.trans (s5.trans s6), ?_, ?_, ?_, hl2, ?_, fun j hj => wipeS_in vs S5 j hj⟩
                  · rw [← hw]
                    exact (r6.ghostTurn ne0 fun a z => by cases z).wiped vs
                  · exact RepL.app (RepL.mono ((s3.trans s4).trans (s5.trans s6)) ds hds) (.cons' h6 .nil')
                  · rw [List.length_append]
                    exact Nat.succ_le_succ hlen
                  · rw [List.append_assoc]
                    exact hr
            cases oc with
            | none => exact more (Same.refl F4) r4 h2
            | some c =>
              dsimp only at h2
              split at h2
              · rename_i S4 hc
                refine ⟨F4, _, S3, true, S4, hc, r4, fun F5 H5 s5 r5 => iteT (more s5 r5 h2)⟩
              · rename_i S4 hc
                refine ⟨F4, _, S3, false, S4, hc, r4, fun F5 H5 s5 r5 => iteF ⟨F5, wipeS vs S4, ds, acc, rest, s14.trans s5, ?_, RepL.mono ((s3.trans s4).trans s5) ds hds, Nat.le_succ_of_le hlen, h2, hr, fun j hj => wipeS_in vs S4 j hj⟩⟩
                rw [← hw]
                exact r5.wiped vs
              · cases h2
        · have e : i = l.length := by omega
          subst e
          rw [List.drop_length, lcGo] at h2
          cases h2
          refine .inl ⟨y2 rfl, ?_⟩
          rw [List.append_nil] at hr
          subst hr
          obtain ⟨r4, s4⟩ := (r2.unwiped hno).ghostFreeze ne0
          refine k _ _ _ ((s1.trans s2).trans s4) r4 ?_
          rw [Rep]
          exact ⟨Dp, acc, rfl, upd_same, RepL.mono s4 ds hds⟩
    · cases ee
variable {scope : Scope} {own : List (PySem.Str × Nat)} {spos py : Pos}
/-- [e for .. in .. if ..] -/
theorem r_lc {oc : Option M} {ifs : List Expr} {vs : List Nat} (ok : Okb b X) (hN : X.N.Nodup) (hi : PI X tg iter (tI b src)) (bk : BlkOk X.N X.env.scope scope own) (hv : own.map (·.2) = vs) (hsub : subN 4 p vs = true)
    (hg : ∀ (s : Shared) (H : Hp) (C : Addr) (cl : List (PySem.Str × Addr)) (fp : List Addr), PG (X.blk s H scope (compEnvC scope cl C X.env) fp) tg (tGn b 4 p)) (ht : ∀ (s : Shared) (H : Hp) (C : Addr) (cl : List (PySem.Str × Addr)) (fp : List Addr), PTs (X.blk s H scope (compEnvC scope cl C X.env) fp) ifs (tO b oc))
    (he : ∀ (s : Shared) (H : Hp) (C : Addr) (cl : List (PySem.Str × Addr)) (fp : List Addr), PE (X.blk s H scope (compEnvC scope cl C X.env) fp) e (tE b me)) (hs : ∀ x, foldedSetIterable iter X.env x = pure x) :
    PE X (.ListComp e [⟨tg, iter, ifs, 0⟩] scope pos) (tE b (eLC p vs src oc me)) := (pe_lc ok.calm hN hi bk hg ht he hs).weak fun σ H Q q => by
  rw [hv]
  exact lc_w hsub q
/-- name = [..] -/
theorem q_setLc {i : Nat} {y : PySem.Str} {oc : Option M} {ifs : List Expr} {vs : List Nat} (ok : Okb b X) (hN : X.N.Nodup) (hy : X.N[i]? = some y) (hyl : X.env.scope.names.lookup y = some .local) (hsw : swapsWith (.ListComp e [⟨tg, iter, ifs, 0⟩] scope pos) (some (.Name y py)) spos.line X.env = pure true)
    (hi : PI X tg iter (tI b src)) (bk : BlkOk X.N X.env.scope scope own) (hv : own.map (·.2) = vs) (hsub : subN 4 p vs = true)
    (hg : ∀ (s : Shared) (H : Hp) (C : Addr) (cl : List (PySem.Str × Addr)) (fp : List Addr), PG (X.blk s H scope (compEnvC scope cl C X.env) fp) tg (tGn b 4 p)) (ht : ∀ (s : Shared) (H : Hp) (C : Addr) (cl : List (PySem.Str × Addr)) (fp : List Addr), PTs (X.blk s H scope (compEnvC scope cl C X.env) fp) ifs (tO b oc))
    (he : ∀ (s : Shared) (H : Hp) (C : Addr) (cl : List (PySem.Str × Addr)) (fp : List Addr), PE (X.blk s H scope (compEnvC scope cl C X.env) fp) e (tE b me)) (hs : ∀ x, foldedSetIterable iter X.env x = pure x) :
    PS X (.Assign [.Name y py] (.ListComp e [⟨tg, iter, ifs, 0⟩] scope pos) spos) (tS b W (sSet i (eLC p vs src oc me))) := (ps_setLc ok.calm hN hy hyl hsw hi bk hg ht he hs).weak fun D σ H q => by
  have q := set_w q
  rw [hv]
  exact lc_w hsub q
end
end Tee
set_option maxRecDepth 100000
set_option maxHeartbeats 4000000
/-! Dict comprehensions. -/
namespace Tee
open PySem PySem.Spec PyProof.Rows L2
theorem Okb.blk {b : Bd} {X : Cx} (ok : Okb b X) {s : Shared} {H : Hp} {scope : Scope} {ce : Env} {fp : List Addr} : Okb b (X.blk s H scope ce fp) := ⟨ok.K, ok.w, ok.un, ok.calm⟩
section
variable {X : Cx} {b : Bd} {F F1 H : Hp} {G : Gh} {S : Ss} {σ : Sg} {p : Pt} {src : L}
/-- {k: v for .. in ..}, the keys trees -/
def tDcT (b : Bd) (wi : TI) (g : TG) (tk tv : TE) (vs : List Nat) : TE := fun σ H Q => wi σ H fun J H1 => ∀ D, H1 D = none → ∃ W : Nat → Nat → Hp → Prop, (∃ m, W 0 m (upd H1 D (dicO D []))) ∧ ∀ i m H, W i m H →
  (J.stop i H ∧ ∃ es, H D = some (dicO D es) ∧ ∀ od, Q (.ref D) (upd H D (.frz od (dicO D es)))) ∨ (J.go i H ∧ ∃ Nx : Hp → Prop, (∀ H', Nx H' → ∃ m', m' < m ∧ W (i + 1) m' H') ∧ ∀ x H', J.yld i H x H' → g x (wipe σ vs) H' fun σ2 H2 => wipe σ2 vs = wipe σ vs ∧
    tk σ2 H2 fun y H4 => tv σ2 H4 fun z H5 => ∃ F ks us ks' us' es k v, Same F H5 ∧ H5 D = some (dicO D es) ∧ KeyR b F ks es ∧ RepL b F us (es.map (·.2.2)) ∧ Rep b F k y ∧ Rep b F v z ∧ dSet k v ks us = some (ks', us') ∧ ∀ es', KeyR b F ks' es' → RepL b F us' (es'.map (·.2.2)) → Nx (upd H5 D (dicO D es')))
theorem pe_dcT {kx vx tg iter : Expr} {scope : Scope} {own : List (PySem.Str × Nat)} {pos : Pos} {wi : TI} {g : TG} {tk tv : TE} (ok : Okb b X) (hN : X.N.Nodup) (hi : PI X tg iter wi) (bk : BlkOk X.N X.env.scope scope own)
    (hg : ∀ (s : Shared) (H : Hp) (C : Addr) (cl : List (PySem.Str × Addr)) (fp : List Addr), PG (X.blk s H scope (compEnvC scope cl C X.env) fp) tg g)
    (hk : ∀ (s : Shared) (H : Hp) (C : Addr) (cl : List (PySem.Str × Addr)) (fp : List Addr), PE (X.blk s H scope (compEnvC scope cl C X.env) fp) kx tk)
    (he : ∀ (s : Shared) (H : Hp) (C : Addr) (cl : List (PySem.Str × Addr)) (fp : List Addr), PE (X.blk s H scope (compEnvC scope cl C X.env) fp) vx tv) (hs : ∀ x, foldedSetIterable iter X.env x = pure x) :
    PE X (.DictComp kx vx [⟨tg, iter, [], 0⟩] scope pos) (tDcT b wi g tk tv (own.map (·.2))) := by
  refine ⟨fun pins s σ H Q I h => ?_⟩
  rw [arm_eval_DictComp]
  have hfree : ∀ y ∈ scope.names, y.2 = .free → ∃ c, X.env.cells.lookup y.1 = some c := fun y hy e => I.ok.has _ ((bk.free y hy e).imp id id)
  refine wpAny_comprehension_free (use := none) rfl hs (closure_ok hfree) bk.kind (fun y hy e => by rw [bk.uniq y hy, e]) (thn (hi.run pins s σ H _ I h) fun xv s1 hx => thn hx fun itv s2 ⟨it, fp, tn, J, H2, e, I2, T, st2, f2, q⟩ => ?_)
  subst e
  refine wpAny_newObj_type (newEnv_comp ?_)
  generalize hD : s2.heap.objs.size = D
  have hDn : H2 D = none := I2.hok.fresh (Nat.le_of_eq hD)
  obtain ⟨W, ⟨m0, w0⟩, turn⟩ := q D hDn
  generalize hs3 : ({ s2 with heap := s2.heap.push { cls := .type "dict", data := .dict #[] } } : Shared) = s3
  have I3 : Inv X pins σ (upd H2 D (dicO D [])) s3 := by
    rw [← hs3, ← hD]
    exact I2.laid (t' := s2.toks) (fun _ _ e => Heap.get?_push_of_some _ e) (Nat.le_refl _) (dic0 I2.big)
  have h3 : s3.heap = s2.heap.push { cls := .type "dict", data := .dict #[] } := by rw [← hs3]
  have f3 : ∀ c ∈ fp, FpOk X pins (upd H2 D (dicO D [])) c ∧ c < s3.heap.objs.size := fun c hc => by
    obtain ⟨o, e, _⟩ := T.obj _ _ st2 c hc
    have hlt := Heap.lt_size e
    refine ⟨⟨?_, (f2 c hc).2⟩, by rw [h3, Heap.size_push]; exact Nat.lt_succ_of_lt hlt⟩
    rw [upd_ne (by rw [← hD]; exact Nat.ne_of_lt hlt)]
    exact (f2 c hc).1
  have st3 : tn 0 s3.heap := T.keep _ _ _ st2 fun c _ o e => by rw [h3]; exact Heap.get?_push_of_some _ e
  have I4 := block_start I3 bk hN f3
  generalize hcl : cellsFrom (s3.heap.objs.size + 1) scope.names (cloFrom X.env.cells scope.names []) = cl at I4 ⊢
  have pg := hg s3 (upd H2 D (dicO D [])) s3.heap.objs.size cl fp
  have pk := hk s3 (upd H2 D (dicO D [])) s3.heap.objs.size cl fp
  have pe := he s3 (upd H2 D (dicO D [])) s3.heap.objs.size cl fp
  show codeAny _ _ (.compStart (.DictComp kx vx [⟨tg, iter, [], 0⟩] scope pos) 0 (.ref it) (.ref D) (compEnvC scope cl s3.heap.objs.size X.env)) (compPost (model X.prog X.w) X.A X.xe none (EP X pins σ Q) (.ref D) s3.heap.objs.size) { s3 with heap := pushCells (s3.heap.push { cls := .type "dict", data := .dict #[] }) scope.names }
  have nfp : ∀ c ∈ fp, (upd H2 D (dicO D [])) c = none := fun c hc => (f3 c hc).1.1
  generalize hce : compEnvC scope cl s3.heap.objs.size X.env = ce at I4 pg pk pe ⊢
  have cL : ce.locals = s3.heap.objs.size := by subst hce; rfl
  generalize hH3 : upd H2 D (dicO D []) = H3 at I3 I4 pg pk pe w0 nfp f3
  generalize hs4 : ({ s3 with heap := pushCells (s3.heap.push { cls := .type "dict", data := .dict #[] }) scope.names } : Shared) = s4 at I4 ⊢
  have st4 : tn 0 s4.heap := T.keep _ _ _ st3 fun c _ o e => by rw [← hs4]; exact pushCells_keeps _ _ _ _ (Heap.get?_push_of_some _ e)
  have stat : ∀ {σ' : Sg} {H' : Hp} {s' : Shared}, Inv (X.blk s3 H3 scope ce fp) [] σ' H' s' → (∀ c ∈ fp, H' c = none) → ∀ c ∈ fp, FpOk (X.blk s3 H3 scope ce fp) [] H' c := fun {σ' H' s'} I' hn c hc =>
    ⟨hn c hc, (I'.ok.exf c hc).1, I'.ok.exfs c hc, .inl hc, fun x d e => (I'.ok.exf c hc).2 x d e, fun p hp => nomatch (show p ∈ ([] : List (Addr × Obj)) ++ [] from hp)⟩
  have loop : codeAny (model X.prog X.w) X.A (.compLoop (.DictComp kx vx [⟨tg, iter, [], 0⟩] scope pos) 0 (.ref it) (.ref D) ce) (compPost (model X.prog X.w) X.A X.xe none (EP X pins σ Q) (.ref D) s3.heap.objs.size) s4 := by
    refine compLoop_anyD (fun n s' => ∃ i H', Inv (X.blk s3 H3 scope ce fp) [] (wipe σ (own.map (·.2))) H' s' ∧ tn i s'.heap ∧ (∀ c ∈ fp, H' c = none) ∧ W i n H') ?_ m0 ⟨0, H3, I4, st4, nfp, w0⟩
    rintro n s5 ⟨i, H5, I5, st5, n5, w5⟩
    rcases turn i n H5 w5 with ⟨stop, es, he5, qq⟩ | ⟨go, Nx, hNx, step⟩
    · refine thnF (T.done (X.blk s3 H3 scope ce fp) rfl rfl rfl ok.calm i [] s5 _ H5 (fun _ _ => False) I5 (stat I5 n5) st5 stop) fun r s6 ⟨hr, I6⟩ => ?_
      subst hr
      have I7 : Inv X pins σ H5 s6 := I3.call' (ch := fp) I6.os I6.base I6.hok I6.bare fun c hc => ⟨(f3 c hc).1.2.2.2.1, (f3 c hc).1.2.1, (f3 c hc).1.2.2.2.2.1, (f3 c hc).1.2.2.2.2.2⟩
      have nC : H5 s3.heap.objs.size = none := by
        have z : H5 ce.locals = none := I6.free
        rwa [cL] at z
      obtain ⟨m, hn, _⟩ := I6.loc
      have hn : s6.heap.Ns ce.locals m := hn
      rw [cL] at hn
      obtain ⟨f0, f1, f2', f3', f4, f5⟩ := I3.fpOk (Nat.le_refl _) nC
      refine ⟨m, hn, fun h'' sb => ?_⟩
      have I8 : Inv X pins σ H5 { s6 with heap := h'' } := I7.turned (t' := s6.toks) (fun c o hc e => (sb.2 c hc).trans e) f0 f1 f3' f4 f5
      obtain ⟨od, I9⟩ := I8.lock he5 True.intro
      exact ⟨.ref D, _, I9, rfl, qq od⟩
    · refine thnF (T.item (X.blk s3 H3 scope ce fp) rfl rfl rfl ok.calm i [] s5 _ H5 (fun _ _ => False) I5 (stat I5 n5) st5 go) fun r s6 ⟨u, hr, h6⟩ => ?_
      subst hr
      refine thnF h6 fun _ s7 ⟨x, H7, I7, r7, y7, st7, n7⟩ => ?_
      have I7' := I7.pinned (stat I7 n7) (T.obj _ _ st7)
      refine thnF (pg.run _ s7 _ H7 x u _ I7' r7 (step x H7 y7)) fun _ s8 ⟨σ8, H8, I8, hw8, q8⟩ => ?_
      refine wpAny_tests_nil ?_
      simp only [if_true]
      refine thnF (pk.run _ s8 σ8 H8 _ I8 q8) fun zk s10 ⟨yk, H10, I10, r10, q10⟩ => ?_
      refine thnF (pe.run _ s10 σ8 H10 _ I10 q10) fun zv s11 ⟨yv, H11, I11, r11, F, ks, us, ks', us', es, k, v, sm, hD11, kr, rl, hk1, hv1, hset, nx⟩ => ?_
      refine wpAny_mono (E := fun _ _ => False) (d_putT ok.blk (X := X.blk s3 H3 scope ce fp) I11 sm hD11 kr rl hk1 r10 hv1 r11 hset (R := fun _ s12 => ∃ m, m < n ∧ ∃ i H', Inv (X.blk s3 H3 scope ce fp) [] (wipe σ (own.map (·.2))) H' s12 ∧ tn i s12.heap ∧ (∀ c ∈ fp, H' c = none) ∧ W i m H') fun es' s12 kr' rl' I12 => ?_) (fun _ _ z => z) fun _ _ z => z.elim
      obtain ⟨m', hm, w'⟩ := hNx _ (nx es' kr' rl')
      have pin' : ∀ c ∈ fp, ∀ o, s7.heap.get? c = some o → s12.heap.get? c = some o ∧ upd H11 D (dicO D es') c = none := fun c hc o e =>
        let z := I12.pin (c, o) (List.mem_append_right _ (List.mem_append_right _ (mem_pinsAt hc e)))
        ⟨z.1, z.2.1⟩
      have hl : (wipe σ (own.map (·.2))).length = σ8.length := by rw [← hw8, wipe_length]
      refine ⟨m', hm, i + 1, _, (I12.unpinned (pins := [])).weak hl (fun j v e => ?_), T.keep _ _ _ st7 fun c hc o e => (pin' c hc o e).1, fun c hc => ?_, w'⟩
      · rw [← hw8] at e
        exact (wipe_some e).1
      · obtain ⟨o, e, _⟩ := T.obj _ _ st7 c hc
        exact (pin' c hc o e).2
  exact codeAny_compStart_dict loop (T.self X.A 0 _ _ _ st4 loop)
theorem dc_w {vs : List Nat} {mk mv : M} (ok : Okb b X) (hsub : subN 4 p vs = true) {Q : VK} : tE b (eDC p vs src mk mv) σ H Q → tDcT b (tI b src) (tGn b 4 p) (tE b mk) (tE b mv) vs σ H Q := fun ⟨F, G, S, d, S', ee, rel, k⟩ => by
  unfold eDC at ee
  cases hs : src S with
  | no =>
    rw [hs] at ee
    cases ee
  | go l S1 =>
    rw [hs] at ee
    dsimp only at ee
    refine ⟨F, G, S, l, S1, hs, rel, fun F1 H1 J s1 r1 y Dp hD => ?_⟩
    have ne0 : ∀ q ∈ G, q.1 ≠ Dp := ghost_ne r1 hD
    have no0 : ∀ es a, dicO Dp es ≠ .own a := fun es a z => by cases z
    refine ⟨fun i m H => m = l.length - i ∧ i ≤ l.length ∧ ∃ F2 S2 ks us es, Same F1 F2 ∧ Rel b F2 ((Dp, dicO Dp es) :: G) S2 (wipe σ vs) H ∧ KeyR b F2 ks es ∧ RepL b F2 us (es.map (·.2.2)) ∧ dcGo p vs mk mv (l.drop i) ks us S2 = .go d S' ∧ ∀ j ∈ vs, gets S2 j = .no,
      ⟨_, rfl, Nat.zero_le _, F1, _, [], [], [], Same.refl F1, (r1.ghost hD (no0 [])).wiped vs, key0, RepL.nil', ee, fun j hj => wipeS_in vs S1 j hj⟩, ?_⟩
    rintro i m H2 ⟨rfl, hi, F2, S2, ks, us, es, s2, r2, kr, rl, h2, hno⟩
    obtain ⟨y1, y2⟩ := y i F2 _ S2 _ H2 s2 r2
    by_cases hlt : i < l.length
    · obtain ⟨dd, e1, e2⟩ := drop_step hlt
      obtain ⟨y3, y4⟩ := y1 dd e1
      rw [e2, dcGo] at h2
      cases hb : bind p dd S2 with
      | none =>
        rw [hb] at h2
        cases h2
      | some S3 =>
        rw [hb] at h2
        dsimp only at h2
        cases hk : mk S3 with
        | no =>
          rw [hk] at h2
          cases h2
        | go yk S4 =>
          rw [hk] at h2
          dsimp only at h2
          cases hv : mv S4 with
          | no =>
            rw [hv] at h2
            cases h2
          | go yv S5 =>
            rw [hv] at h2
            dsimp only at h2
            cases hd : dSet yk yv ks us with
            | none =>
              rw [hd] at h2
              cases h2
            | some ku =>
              obtain ⟨ks', us'⟩ := ku
              rw [hd] at h2
              dsimp only at h2
              refine .inr ⟨y3, fun H' => ∃ F2 S2 ks us es, Same F1 F2 ∧ Rel b F2 ((Dp, dicO Dp es) :: G) S2 (wipe σ vs) H' ∧ KeyR b F2 ks es ∧ RepL b F2 us (es.map (·.2.2)) ∧ dcGo p vs mk mv (l.drop (i + 1)) ks us S2 = .go d S' ∧ ∀ j ∈ vs, gets S2 j = .no, fun H' q => ⟨l.length - (i + 1), by omega, rfl, hlt, q⟩, fun x H' yx => ?_⟩
              obtain ⟨F3, s3, r3, h3⟩ := y4 x H' yx
              refine ⟨F3, _, S2, dd, S3, hb, r3, h3, fun F4 σ4 H4 s4 r4 off => ?_⟩
              have hw : wipe σ4 vs = wipe σ vs := wipe_eq (by rw [off.1, wipe_length]) (off.2 vs hsub)
              refine ⟨hw, F4, _, S3, yk, S4, hk, r4, fun F5 v5 H5 s5 r5 h5 => ⟨F5, _, S4, yv, S5, hv, r5, fun F6 v6 H6 s6 r6 h6 => ?_⟩⟩
              have s26 := (s3.trans s4).trans (s5.trans s6)
              refine ⟨F6, ks, us, ks', us', es, yk, yv, r6.base.sameF, (r6.base.gh _ List.mem_cons_self).1, kr.mono s26, RepL.mono s26 us rl, Rep.mono s6 yk h5, h6, hd, fun es' kr' rl' => ⟨F6, wipeS vs S5, ks', us', es', s2.trans s26, ?_, kr', rl', h2, fun j hj => wipeS_in vs S5 j hj⟩⟩
              rw [← hw]
              exact (r6.ghostTurn ne0 (no0 es')).wiped vs
    · have e : i = l.length := by omega
      subst e
      rw [List.drop_length, dcGo] at h2
      cases h2
      refine .inl ⟨y2 rfl, es, (r2.base.gh _ List.mem_cons_self).1, fun od => ?_⟩
      obtain ⟨r4, s4⟩ := ((r2.unwiped hno).ghostTurn (o' := .frz od (dicO Dp es)) ne0 fun a z => by cases z).ghostFreeze ne0
      refine k _ _ _ ((s1.trans s2).trans s4) r4 ?_
      rw [Rep]
      exact ⟨Dp, od, es, rfl, upd_same, kr.mono s4, RepL.mono s4 us rl⟩
/-- {k: v for .. in ..} -/
theorem r_dc {kx vx tg iter : Expr} {scope : Scope} {own : List (PySem.Str × Nat)} {pos : Pos} {mk mv : M} {vs : List Nat} (ok : Okb b X) (hN : X.N.Nodup) (hi : PI X tg iter (tI b src)) (bk : BlkOk X.N X.env.scope scope own) (hv : own.map (·.2) = vs) (hsub : subN 4 p vs = true)
    (hg : ∀ (s : Shared) (H : Hp) (C : Addr) (cl : List (PySem.Str × Addr)) (fp : List Addr), PG (X.blk s H scope (compEnvC scope cl C X.env) fp) tg (tGn b 4 p))
    (hk : ∀ (s : Shared) (H : Hp) (C : Addr) (cl : List (PySem.Str × Addr)) (fp : List Addr), PE (X.blk s H scope (compEnvC scope cl C X.env) fp) kx (tE b mk))
    (he : ∀ (s : Shared) (H : Hp) (C : Addr) (cl : List (PySem.Str × Addr)) (fp : List Addr), PE (X.blk s H scope (compEnvC scope cl C X.env) fp) vx (tE b mv)) (hs : ∀ x, foldedSetIterable iter X.env x = pure x) :
    PE X (.DictComp kx vx [⟨tg, iter, [], 0⟩] scope pos) (tE b (eDC p vs src mk mv)) := (pe_dcT ok hN hi bk hg hk he hs).weak fun σ H Q q => by
  rw [hv]
  exact dc_w ok hsub q
end
end Tee
set_option maxRecDepth 100000
set_option maxHeartbeats 4000000
/-! Instances of the class Rules; fields. -/
namespace Tee
open PySem PySem.Spec PyProof.Rows L2
/-- the four attributes -/
def four (v0 v1 v2 v3 : V) : List (PySem.Str × V) := [("signs", v0), ("known", v1), ("least", v2), ("only", v3)]
section
variable {X : Cx} {b c : Bd} {W : Sg → Hp → Prop} {F F1 H : Hp} {G : Gh} {S : Ss} {σ : Sg} {D1 D2 : Ends}
variable {e o f a : Expr} {me ma mb : M} {pos pos' p : Pos}
theorem four_of {fs : List (PySem.Str × V)} (h : fs.map (·.1) = fields4) : ∃ v0 v1 v2 v3, fs = four v0 v1 v2 v3 := by
  match fs, h with
  | [(_, v0), (_, v1), (_, v2), (_, v3)], h =>
    injection h with e0 h
    injection h with e1 h
    injection h with e2 h
    injection h with e3 h
    cases e0
    cases e1
    cases e2
    cases e3
    exact ⟨v0, v1, v2, v3, rfl⟩
theorem putF_four {fs : List (PySem.Str × V)} {l : List D} {k : Nat} {n : PySem.Str} {d : D} {v : V} (hm : fs.map (·.1) = fields4) (hk : fields4[k]? = some n) (r : RepL b F l (fs.map (·.2))) (h : Rep b F d v) :
    (putF n v fs).map (·.1) = fields4 ∧ RepL b F (l.set k d) ((putF n v fs).map (·.2)) := by
  obtain ⟨v0, v1, v2, v3, rfl⟩ := four_of hm
  match k, hk with
  | 0, hk =>
    cases hk
    exact ⟨rfl, RepL.set 0 r h⟩
  | 1, hk =>
    cases hk
    exact ⟨rfl, RepL.set 1 r h⟩
  | 2, hk =>
    cases hk
    exact ⟨rfl, RepL.set 2 r h⟩
  | 3, hk =>
    cases hk
    exact ⟨rfl, RepL.set 3 r h⟩
  | k + 4, hk => cases hk
theorem Rel.iput {i : Nat} {l l' : List D} {x dx : Addr} {fs fs' : List (PySem.Str × V)} (r : Rel b F G S σ H) (hg : gets S i = .iv l) (h1 : σ[i]? = some (some (.ref x))) (hx : H x = some (.ins b.CR dx fs)) (hd : H dx = some (.own x)) (hF : F x = none) (h0 : b.H0 x = none) (hF2 : F dx = none) (h02 : b.H0 dx = none)
    (e4 : fs'.map (·.1) = fields4) (rl : RepL b F l' (fs'.map (·.2))) : Rel b F G (sets S i (.iv l')) σ (upd H x (.ins b.CR dx fs')) := by
  have own := r.own1 (i := i) (a := x) ⟨by rw [hg]; rfl, h1⟩
  have ne : dx ≠ x := fun z => by
    rw [z, hx] at hd
    cases hd
  refine r.turn (F' := F) (H' := upd H x (.ins b.CR dx fs')) (fun c => c = x) (fun c z => by subst z; exact ⟨h0, own.1, own.2⟩) (fun d c z q => ?_) (fun c z => upd_ne z) (fun c z => rfl) (fun c z => by subst z; exact hF) (fun c z o e => ?_) (fun _ => by rw [hg]; rfl)
    ⟨x, dx, fs', h1, upd_same, by rw [upd_ne ne]; exact hd, hF, h0, hF2, h02, e4, rl⟩
  · subst z
    exact (not_own hx (fun x z => by cases z) q).elim
  · subst z
    rw [hF] at e
    cases e
/-- name.f = e -/
theorem q_fld {i k : Nat} {x n : PySem.Str} {px : Pos} (ok : Okb b X) (cz : Clz b) (hk : fields4[k]? = some n) (hv : PE X (.Name x px) (tVar i)) (he : PE X e (tE b me)) (hs : swapsWith e (some (.Attribute (.Name x px) n pos')) pos.line X.env = pure false) :
    PS X (.Assign [.Attribute (.Name x px) n pos'] e pos) (tS b W (sFld i k me)) := (ps_fld hv he hs).weak fun D σ H ⟨F, G, S, rel, h⟩ => by
  unfold sFld at h
  cases hm : me S with
  | no =>
    rw [hm] at h
    exact h.elim
  | go y S1 =>
    rw [hm] at h
    dsimp only at h
    cases hg : gets S1 i with
    | iv l =>
      rw [hg] at h
      refine ⟨F, G, S, y, S1, hm, rel, fun F1 v H1 s1 r1 h1 => ?_⟩
      have q := r1.slots i
      rw [hg] at q
      obtain ⟨a, dx, fs, q1, q2, q3, q4, q5, q6, q7, q8, q9⟩ := q
      obtain ⟨z1, z2⟩ := putF_four q8 hk q9 h1
      have lf : fs.length < 1000 := by
        have := congrArg List.length q8
        rw [List.length_map] at this
        rw [this]
        decide
      refine ⟨_, q1, a, b.CR, dx, fs, rfl, q2, ok.K ▸ cz.cl, ok.K ▸ cz.no n (List.mem_of_getElem? hk), lf, ?_⟩
      exact h F1 σ _ s1 (r1.iput hg q1 q2 q3 q4 q5 q6 q7 z1 z2)
    | no =>
      rw [hg] at h
      exact h.elim
    | val d =>
      rw [hg] at h
      exact h.elim
    | lv l =>
      rw [hg] at h
      exact h.elim
    | dv k u =>
      rw [hg] at h
      exact h.elim
/-! ### a new one -/
/-- what Rules.__init__ leaves -/
structure Inited (c : Bd) (H H' : Hp) (x p q : Addr) (o1 o2 : Obj) (dx : Addr) (sv kv : V) : Prop where
  keep : ∀ a u, a ≠ x → H a = some u → H' a = some u
  ins : H' x = some (.ins c.CR dx (four sv kv (.ref p) (.ref q)))
  hp : H' p = some (.frz o1 (dicO p []))
  hq : H' q = some (.frz o2 (dicO q []))
  np : H p = none
  nq : H q = none
  ne : p ≠ q
def spI (c : Bd) : Sp := fun vs H Q _ => ∃ x dx sv kv, vs = [.ref x, sv, kv] ∧ H x = some (.ins c.CR dx []) ∧ H dx = some (.own x) ∧ ∀ H' p q o1 o2, Inited c H H' x p q o1 o2 dx sv kv → Q .non H'
/-- the frozen part of a new instance -/
structure Made (b : Bd) (F H1 : Hp) (H' : Hp) (x dx : Addr) (sv kv : V) (p q : Addr) : Prop where
  same : Same H1 H'
  hx : ∃ fs, H' x = some (.ins b.CR dx fs) ∧ fs = four sv kv (.ref p) (.ref q)
  hd : H' dx = some (.own x)
  hp : ∃ o, H' p = some (.frz o (dicO p []))
  hq : ∃ o, H' q = some (.frz o (dicO q []))
  nx : H1 x = none
  nd : H1 dx = none
  np : H1 p = none
  nq : H1 q = none
  px : p ≠ x ∧ p ≠ dx ∧ q ≠ x ∧ q ≠ dx ∧ p ≠ q ∧ dx ≠ x
theorem made_of (qv : b.Eqv c) {H1 H' : Hp} {x dx p q : Addr} {o1 o2 : Obj} {sv kv : V} (nx : H1 x = none) (nd : H1 dx = none) (ne : dx ≠ x) (h : Inited c (upd (upd H1 dx (.own x)) x (.ins c.CR dx [])) H' x p q o1 o2 dx sv kv) : Made b F H1 H' x dx sv kv p q := by
  have old : ∀ a, (upd (upd H1 dx (.own x)) x (.ins c.CR dx [])) a = none → a ≠ x ∧ a ≠ dx ∧ H1 a = none := fun a z => by
    have n1 : a ≠ x := fun e => by
      rw [e, upd_same] at z
      cases z
    rw [upd_ne n1] at z
    have n2 : a ≠ dx := fun e => by
      rw [e, upd_same] at z
      cases z
    rw [upd_ne n2] at z
    exact ⟨n1, n2, z⟩
  obtain ⟨p1, p2, p3⟩ := old p h.np
  obtain ⟨q1, q2, q3⟩ := old q h.nq
  refine ⟨fun a u e => h.keep a u (ne_of_none e nx) ?_, ⟨_, qv.CR ▸ h.ins, rfl⟩, h.keep dx _ ne ?_, ⟨_, h.hp⟩, ⟨_, h.hq⟩, nx, nd, p3, q3, p1, p2, q1, q2, h.ne, ne⟩
  · rw [upd_ne (ne_of_none e nx), upd_ne (ne_of_none e nd)]
    exact e
  · rw [upd_ne ne, upd_same]
/-- .. with its two dicts alone frozen -/
theorem made_live {H1 H' : Hp} {x dx p q : Addr} {sv kv : V} (r : Rel b F G S σ H1) (m : Made b F H1 H' x dx sv kv p q) : ∃ F', Same F F' ∧ Rel b F' G S σ H' ∧ F' x = none ∧ F' dx = none ∧ Rep b F' (.dct [] []) (.ref p) ∧ Rep b F' (.dct [] []) (.ref q) ∧ ∀ a, F' a ≠ none → F a ≠ none ∨ H1 a = none := by
  obtain ⟨o1, e1⟩ := m.hp
  obtain ⟨o2, e2⟩ := m.hq
  obtain ⟨px, pd, qx, qd, pq, dn⟩ := m.px
  have fx := sameNone r.base.sameF m.nx
  have fd := sameNone r.base.sameF m.nd
  have fp := sameNone r.base.sameF m.np
  have fq := sameNone r.base.sameF m.nq
  have s : Same F (upd (upd F p (.frz o1 (dicO p []))) q (.frz o2 (dicO q []))) := (same_upd' fp).trans (same_upd' (by rw [upd_ne (Ne.symm pq)]; exact fq))
  have nw : ∀ a, (upd (upd F p (.frz o1 (dicO p []))) q (.frz o2 (dicO q []))) a ≠ none → F a ≠ none ∨ H1 a = none := fun a z => by
    by_cases ha : a = q
    · rw [ha]
      exact .inr m.nq
    · rw [upd_ne ha] at z
      by_cases hb : a = p
      · rw [hb]
        exact .inr m.np
      · rw [upd_ne hb] at z
        exact .inl z
  refine ⟨_, s, r.grow s m.same (fun a u e => ?_) nw, ?_, ?_, rep_dct0 (o := o1) ?_, rep_dct0 (o := o2) upd_same, nw⟩
  · by_cases ha : a = q
    · subst ha
      rw [upd_same] at e
      cases e
      exact e2
    · rw [upd_ne ha] at e
      by_cases hb : a = p
      · subst hb
        rw [upd_same] at e
        cases e
        exact e1
      · rw [upd_ne hb] at e
        exact m.same _ _ (r.base.sameF _ _ e)
  · rw [upd_ne (Ne.symm qx), upd_ne (Ne.symm px)]
    exact fx
  · rw [upd_ne (Ne.symm qd), upd_ne (Ne.symm pd)]
    exact fd
  · rw [upd_ne pq, upd_same]
/-- .. frozen whole -/
theorem made_frz {H1 H' : Hp} {x dx p q : Addr} {sv kv : V} {d1 d2 : D} (r : Rel b F G S σ H1) (m : Made b F H1 H' x dx sv kv p q) (h1 : Rep b F d1 sv) (h2 : Rep b F d2 kv) : ∃ F', Same F F' ∧ Rel b F' G S σ H' ∧ Rep b F' (.ins [d1, d2, .dct [] [], .dct [] []]) (.ref x) := by
  obtain ⟨F1, s1, r1, fx, fd, z1, z2, nw⟩ := made_live r m
  obtain ⟨fs, ex, efs⟩ := m.hx
  have dn := m.px.2.2.2.2.2
  have s2 : Same F1 (upd (upd F1 dx (.own x)) x (.ins b.CR dx fs)) := (same_upd' fd).trans (same_upd' (by rw [upd_ne (Ne.symm dn)]; exact fx))
  refine ⟨_, s1.trans s2, r.grow (s1.trans s2) m.same (fun a u e => ?_) (fun a z => ?_), ?_⟩
  · by_cases ha : a = x
    · subst ha
      rw [upd_same] at e
      cases e
      exact ex
    · rw [upd_ne ha] at e
      by_cases hb : a = dx
      · subst hb
        rw [upd_same] at e
        cases e
        exact m.hd
      · rw [upd_ne hb] at e
        exact r1.base.sameF _ _ e
  · by_cases ha : a = x
    · rw [ha]
      exact .inr m.nx
    · rw [upd_ne ha] at z
      by_cases hb : a = dx
      · rw [hb]
        exact .inr m.nd
      · rw [upd_ne hb] at z
        exact nw a z
  · rw [Rep]
    refine ⟨x, dx, fs, rfl, upd_same, by rw [upd_ne dn, upd_same], by rw [efs]; rfl, ?_⟩
    have hl : fs.map (·.2) = [sv, kv, .ref p, .ref q] := by rw [efs]; rfl
    rw [hl]
    exact .cons' (Rep.mono (s1.trans s2) _ h1) (.cons' (Rep.mono (s1.trans s2) _ h2) (.cons' (Rep.mono s2 _ z1) (.cons' (Rep.mono s2 _ z2) .nil')))
theorem make_w (qv : b.Eqv c) {Q : VK} {E : XK} : tE b (e2 oRules ma mb) σ H Q → tMake c.CR (spI c) [] E (tCons (tE b ma) (tCons (tE b mb) tNil)) σ H Q := fun ⟨F, G, S, d, S', ee, rel, k⟩ => by
  unfold e2 at ee
  cases hm : ma S with
  | no =>
    rw [hm] at ee
    cases ee
  | go x S1 =>
    rw [hm] at ee
    dsimp only at ee
    cases hn : mb S1 with
    | no =>
      rw [hn] at ee
      cases ee
    | go y S2 =>
      rw [hn] at ee
      cases ee
      refine ⟨F, G, S, x, S1, hm, rel, fun F1 v H1 s1 r1 h1 => ⟨F1, G, S1, y, S', hn, r1, fun F2 u H2 s2 r2 h2 z dx nz nd ne => ?_⟩⟩
      refine ⟨z, dx, v, u, rfl, upd_same, by rw [upd_ne ne, upd_same], fun H' p q o1 o2 i => ⟨rfl, ?_⟩⟩
      obtain ⟨F3, s3, r3, h3⟩ := made_frz r2 (made_of (b := b) (F := F2) qv nz nd ne i) (Rep.mono s2 x h1) h2
      exact k F3 _ H' ((s1.trans s2).trans s3) r3 h3
/-- Rules(a, b), a value -/
theorem r_rules {x : PySem.Str} {k : Nat} {fi : Addr} {fd : FuncData} {ps : List PySem.Str} (qv : b.Eqv c) (M : Mk X.K c.CR fi) (Fo : FnOk X.prog X.w X.K X.mg X.base CX0 k fi fd ps (spI c)) (hr : Room (k + 1) X.A) (hg : Gl X x) (hm : X.mg x = some (.ref c.CR)) (hb : Binds X.K fd ps [])
    (ha : PE X a (tE b ma)) (he : PE X e (tE b mb)) (hdb : (x == ("__debug__" : PySem.Str)) = false) (hs : starEach [a, e] X.env = (false, eval a X.env) :: starEach [e] X.env) (hs2 : starEach [e] X.env = (false, eval e X.env) :: starEach [] X.env) (hpl : (backTo pos (starEach [e] X.env)).any (·.1) = false) :
    PE X (.Call (.Name x p) [a, e] [] pos) (tE b (e2 oRules ma mb)) := (pe_make M Fo hr hg hm hb .nil pass0 (pa_cons ha (pa_cons he pa_nil hs2) hs) hdb hs hpl).weak fun σ H Q q => make_w qv q
/-- name = Rules(a, b) -/
theorem newI_w (qv : b.Eqv c) {i : Nat} {E : XK} : tS b W (sNewI i ma mb) D1 σ H → tMake c.CR (spI c) [] E (tCons (tE b ma) (tCons (tE b mb) tNil)) σ H fun v H1 => gName i v σ H1 D1.nx := fun ⟨F, G, S, rel, h⟩ => by
  unfold sNewI at h
  cases hm : ma S with
  | no =>
    rw [hm] at h
    exact h.elim
  | go x S1 =>
    rw [hm] at h
    dsimp only at h
    cases hn : mb S1 with
    | no =>
      rw [hn] at h
      exact h.elim
    | go y S2 =>
      rw [hn] at h
      refine ⟨F, G, S, x, S1, hm, rel, fun F1 v H1 s1 r1 h1 => ⟨F1, G, S1, y, S2, hn, r1, fun F2 u H2 s2 r2 h2 z dx nz nd ne => ?_⟩⟩
      refine ⟨z, dx, v, u, rfl, upd_same, by rw [upd_ne ne, upd_same], fun H' p q o1 o2 i' => ⟨rfl, ?_⟩⟩
      have m := made_of (b := b) (F := F2) qv nz nd ne i'
      obtain ⟨F3, s3, r3, fx, fd, z1, z2, nw⟩ := made_live r2 m
      obtain ⟨fs, ex, efs⟩ := m.hx
      refine h F3 _ H' ((s1.trans s2).trans s3) (r3.put (fun _ => ⟨z, dx, fs, rfl, ex, m.hd, fx, r2.base.sameH.free nz, fd, r2.base.sameH.free nd, by rw [efs]; rfl, ?_⟩) fun _ _ a ea => ?_)
      · rw [efs]
        exact .cons' (Rep.mono (s2.trans s3) x h1) (.cons' (Rep.mono s3 y h2) (.cons' z1 (.cons' z2 .nil')))
      · cases ea
        refine ⟨fun j _ l => ?_, fun g hg eg => ?_⟩
        · obtain ⟨a2, o2, e1, e2, _⟩ := (r2.slots j).live l.1
          rw [l.2] at e1
          cases e1
          rw [nz] at e2
          cases e2
        · have := (r2.base.gh g hg).1
          rw [eg, nz] at this
          cases this
theorem q_newI {i : Nat} {x y : PySem.Str} {k : Nat} {fi : Addr} {fd : FuncData} {ps : List PySem.Str} {py spos : Pos} (hN : X.N.Nodup) (hi : X.N[i]? = some y) (hy : Loc X.env.scope y) (hf : X.fn y = true ∨ X.env.scope.names.lookup y = some .local)
    (qv : b.Eqv c) (M : Mk X.K c.CR fi) (Fo : FnOk X.prog X.w X.K X.mg X.base CX0 k fi fd ps (spI c)) (hr : Room (k + 1) X.A) (hg : Gl X x) (hm : X.mg x = some (.ref c.CR)) (hb : Binds X.K fd ps [])
    (ha : PE X a (tE b ma)) (he : PE X e (tE b mb)) (hdb : (x == ("__debug__" : PySem.Str)) = false) (hs : starEach [a, e] X.env = (false, eval a X.env) :: starEach [e] X.env) (hs2 : starEach [e] X.env = (false, eval e X.env) :: starEach [] X.env) (hpl : (backTo pos (starEach [e] X.env)).any (·.1) = false)
    (hsw : swapsWith (.Call (.Name x p) [a, e] [] pos) (some (.Name y py)) spos.line X.env = pure false) :
    PS X (.Assign [.Name y py] (.Call (.Name x p) [a, e] [] pos) spos) (tS b W (sNewI i ma mb)) :=
  (ps_set hN hi hy (pe_make M Fo hr hg hm hb .nil pass0 (pa_cons ha (pa_cons he pa_nil hs2) hs) hdb hs hpl) hsw hf).weak fun D σ H q => newI_w qv q
end
end Tee
set_option maxRecDepth 100000
set_option maxHeartbeats 4000000
/-! Lists added into a name that is changed; Rules.__init__. -/
namespace Tee
open PySem PySem.Spec PyProof.Rows L2
section
variable {X : Cx} {b c : Bd} {W : Sg → Hp → Prop} {F F1 H : Hp} {G : Gh} {S : Ss} {σ : Sg}
variable {e o a : Expr} {me ma mb : M} {pos pos' p : Pos}
/-- name = x + y, lists -/
theorem q_addL {i : Nat} {x : PySem.Str} (ok : Okb b X) (hN : X.N.Nodup) (hi : X.N[i]? = some x) (hx : L2.Loc X.env.scope x) (ha : PE X a (tE b ma)) (he : PE X e (tE b mb)) (hs : swapsWith (.BinOp a .Add e p) (some (.Name x pos')) pos.line X.env = pure false) (hf : X.fn x = true ∨ X.env.scope.names.lookup x = some .local) :
    PS X (.Assign [.Name x pos'] (.BinOp a .Add e p) pos) (tS b W (sAddL i ma mb)) := (ps_set hN hi hx (pe_op op_addD ha he) hs hf).weak fun D σ H ⟨F, G, S, rel, h⟩ => by
  unfold sAddL at h
  split at h
  · rename_i l S1 hm
    split at h
    · rename_i m S2 hn
      split at h
      · rename_i l' hfit
        unfold fit at hfit
        split at hfit
        · rename_i hfew
          cases hfit
          refine ⟨F, G, S, _, S1, hm, rel, fun F1 v H1 s1 r1 h1 => ⟨F1, G, S1, _, S2, hn, r1, fun F2 u H2 s2 r2 h2 => ?_⟩⟩
          obtain ⟨p, xs, rfl, q1, q2⟩ := lst_of (Rep.mono s2 _ h1)
          obtain ⟨p2, ys, rfl, q3, q4⟩ := lst_of h2
          have hl := few_le hfew
          rw [List.length_append, q2.len, q4.len] at hl
          refine .inr (.inr ⟨p, p2, xs, ys, rfl, rfl, r2.base.sameF _ _ q1, r2.base.sameF _ _ q3, line_le hl, fun q hq => ?_⟩)
          have r3 := r2.ghost (p := q) (o := .lst (xs ++ ys)) hq fun a z => by cases z
          have nd : ∀ g ∈ G, g.1 ≠ q := fun g hg z => by
            have := (r2.base.gh g hg).1
            rw [z, hq] at this
            cases this
          exact h F2 _ _ (s1.trans s2) (r3.settle nd ⟨q, _, rfl, upd_same, sameNone r2.base.sameF hq, r2.base.sameH.free hq, q2.app q4⟩)
        · cases hfit
      · exact h.elim
    · exact h.elim
  · exact h.elim
/-- o.f = .., one of several targets -/
def gFld (K : PySem.W.Frag) (ta : TE) (f : PySem.Str) : TG := fun v σ H Q => ta σ H fun x H1 => ∃ a C dx fs, x = .ref a ∧ H1 a = some (.ins C dx fs) ∧ Cls K C ∧ NoAttr K C f ∧ fs.length < 1000 ∧ Q σ (upd H1 a (.ins C dx (putF f v fs)))
theorem pg_fld {f : PySem.Str} {ta : TE} (ha : PE X o ta) : PG X (.Attribute o f pos) (gFld X.K ta f) := by
  refine ⟨fun pins s σ H v u Q I r h => PySem.W.kas_attr (thn (ha.run pins s σ H _ I h) fun ov s2 ⟨x, H1, I1, rx, a, C, dx, fs, ex, ea, c, n, l, q⟩ => ?_)⟩
  subst ex
  obtain rfl : ov = Value.ref a := rx
  exact setattr_ok I1 ea c n l r fun s3 I3 => ⟨σ, _, I3, q⟩
end
end Tee
set_option maxRecDepth 100000
set_option maxHeartbeats 4000000
/-! Sets of trees. -/
namespace Tee
open PySem PySem.Spec PyProof.Rows L2
section
variable {prog : Program} {w : World} {A : Around} {E : Value → Shared → Prop}
theorem leaf_cls {m : Nat} {u : Value} (h : ∀ a, u ≠ .ref a) : ofAClassStatement m u = pure false := by
  cases u <;> first | (exact absurd rfl (h _)) | (cases m <;> rfl)
theorem at_leaf {h : Heap} {d : D} {u : Value} (a : At h d u) (hd : (∃ i, d = .int i) ∨ ∃ c, d = .sym c) : (∃ i t, u = Value.int i t) ∨ ∃ c t, u = Value.str c t := by
  rcases hd with ⟨i, rfl⟩ | ⟨c, rfl⟩
  · simp only [At] at a
    obtain ⟨t, rfl⟩ := a
    exact .inl ⟨_, _, rfl⟩
  · simp only [At] at a
    obtain ⟨t, rfl⟩ := a
    exact .inr ⟨_, _, rfl⟩
theorem key_cases {n : Nat} {d : D} (h : keyD n d = true) : ((∃ i, d = .int i) ∨ ∃ c, d = .sym c) ∨ ∃ l m, d = .tup l ∧ n = m + 1 ∧ ∀ x ∈ l, keyD m x = true := by
  cases d with
  | int i => exact .inl (.inl ⟨i, rfl⟩)
  | sym i => exact .inl (.inr ⟨i, rfl⟩)
  | tup l =>
    obtain ⟨m, e1, hl⟩ := keyD_tup h
    exact .inr ⟨l, m, rfl, e1, hl⟩
  | _ => cases n <;> simp [keyD] at h
/-- a tree's tuples are of no class statement -/
theorem cls_tree : ∀ (n m : Nat) (d : D) (u : Value) (s : Shared) (Q : Bool → Shared → Prop), n ≤ m → keyD n d = true → At s.heap d u → Q false s → wpAny (model prog w) A (ofAClassStatement m u) Q E s := by
  intro n
  induction n with
  | zero =>
    intro m d u s Q hm hd ha h
    rcases key_cases hd with q | ⟨_, _, _, e, _⟩
    · rcases at_leaf ha q with ⟨i, t, rfl⟩ | ⟨c, t, rfl⟩
      · rw [leaf_cls fun _ z => by cases z]
        exact wpAny_pure h
      · rw [leaf_cls fun _ z => by cases z]
        exact wpAny_pure h
    · cases e
  | succ n ih =>
    intro m d u s Q hm hd ha h
    rcases key_cases hd with q | ⟨l, k, rfl, e, hl⟩
    · rcases at_leaf ha q with ⟨i, t, rfl⟩ | ⟨c, t, rfl⟩
      · rw [leaf_cls fun _ z => by cases z]
        exact wpAny_pure h
      · rw [leaf_cls fun _ z => by cases z]
        exact wpAny_pure h
    · cases e
      obtain ⟨m, rfl⟩ : ∃ m', m = m' + 1 := ⟨m - 1, by omega⟩
      simp only [At] at ha
      obtain ⟨a, items, rfl, ⟨o, ho, hc, nn, hD⟩, hi⟩ := ha
      unfold ofAClassStatement
      refine wpAny_bind (wpAny_typeOf ⟨o, ho, hc⟩ ?_)
      dsimp only
      rw [if_pos (show (("tuple" : String) == "tuple") = true by decide)]
      refine wpAny_bind (wpAny_pure ?_)
      simp only [Bool.not_true, Bool.false_eq_true, if_false]
      refine wpAny_bind (wpAny_seqItems ho hD ?_)
      dsimp only
      refine wpAny_bind ?_
      rw [← Array.forIn_toList]
      refine wpAny_forIn_list _ (fun rest r s' => r.1 = none ∧ s' = s ∧ ∀ v ∈ rest, ∃ d, keyD n d = true ∧ At s.heap d v) _ ?_ ?_ _ _ ⟨rfl, rfl, hi.all hl⟩
      · rintro v rest r s' ⟨hr, rfl, hall⟩
        obtain ⟨d, k1, k2⟩ := hall v List.mem_cons_self
        refine wpAny_bind (ih m d v s' _ (by omega) k1 k2 ?_)
        simp only [Bool.false_eq_true, if_false]
        exact wpAny_pure ⟨rfl, rfl, fun u hu' => hall u (List.mem_cons_of_mem _ hu')⟩
      · rintro ⟨r1, r2⟩ s' ⟨hr, rfl, _⟩
        simp only at hr
        subst hr
        exact wpAny_pure h
/-- whether its hash is by value is not asked -/
theorem byv_tree : ∀ (n m : Nat) (d : D) (u : Value) (s : Shared) (Q : Bool → Shared → Prop), n ≤ m → keyD n d = true → At s.heap d u → (∀ b, Q b s) → wpAny (model prog w) A (hashByValue m u) Q E s := by
  intro n
  have leaf : ∀ (m : Nat) (d : D) (u : Value) (s : Shared) (Q : Bool → Shared → Prop), ((∃ i, d = .int i) ∨ ∃ c, d = .sym c) → At s.heap d u → (∀ b, Q b s) → wpAny (model prog w) A (hashByValue m u) Q E s := fun m d u s Q q ha h => by
    rcases at_leaf ha q with ⟨i, t, rfl⟩ | ⟨c, t, rfl⟩
    · have e : hashByValue m (Value.int i t) = pure true := by cases m <;> rfl
      rw [e]
      exact wpAny_pure (h _)
    · have e : hashByValue m (Value.str c t) = pure false := by cases m <;> rfl
      rw [e]
      exact wpAny_pure (h _)
  induction n with
  | zero =>
    intro m d u s Q hm hd ha h
    rcases key_cases hd with q | ⟨_, _, _, e, _⟩
    · exact leaf m d u s Q q ha h
    · cases e
  | succ n ih =>
    intro m d u s Q hm hd ha h
    rcases key_cases hd with q | ⟨l, k, rfl, e, hl⟩
    · exact leaf m d u s Q q ha h
    · cases e
      obtain ⟨m, rfl⟩ : ∃ m', m = m' + 1 := ⟨m - 1, by omega⟩
      simp only [At] at ha
      obtain ⟨a, items, rfl, ⟨o, ho, hc, nn, hD⟩, hi⟩ := ha
      unfold hashByValue
      refine wpAny_bind (wpAny_specialOf ⟨o, ho, hc⟩ PySem.F.slot_tuple_hash.lookup ?_)
      dsimp only
      refine wpAny_bind (wpAny_seqItems ho hD ?_)
      refine wpAny_bind ?_
      show wpAny _ _ (forIn items _ _) _ _ s
      rw [← Array.forIn_toList]
      refine wpAny_forIn_list _ (fun rest r s' => r.1 = none ∧ s' = s ∧ ∀ v ∈ rest, ∃ d, keyD n d = true ∧ At s.heap d v) _ ?_ ?_ _ _ ⟨rfl, rfl, hi.all hl⟩
      · rintro v rest r s' ⟨_, rfl, hall⟩
        obtain ⟨d, k1, k2⟩ := hall v List.mem_cons_self
        refine wpAny_bind (ih m d v s' _ (by omega) k1 k2 fun c => ?_)
        cases c
        · exact wpAny_pure (show wpAny _ _ (pure false) _ _ _ from wpAny_pure (h _))
        · exact wpAny_pure ⟨rfl, rfl, fun u hu' => hall u (List.mem_cons_of_mem _ hu')⟩
      · rintro ⟨r1, r2⟩ s' ⟨hr, rfl, _⟩
        simp only at hr
        subst hr
        exact wpAny_pure (h _)
end
end Tee
set_option maxRecDepth 100000
set_option maxHeartbeats 4000000
/-! Sets of trees: search, adding. -/
namespace Tee
open PySem PySem.Spec PyProof.Rows L2
abbrev KeyAt (P : Program) (w : World) (h : Heap) (p : D × Addr) : Prop := (treeK P w).is h p.1 p.2
def hsL (w : World) (L : List (D × Addr)) : List Int := L.map fun p => hashD w p.1
def rwL (w : World) (L : List (D × Addr)) : List (Int × Value) := L.map fun p => (hashD w p.1, Value.ref p.2)
/-- a small set of trees at a -/
structure SetD (P : Program) (w : World) (h : Heap) (a : Addr) (L : List (D × Addr)) (es : Array (Int × Value)) (ep : Nat) (t : SetTable) : Prop where
  ob : ∃ o, h.get? a = some o ∧ o.ExactSet ∧ o.data = .set es ep t
  rows : es.toList = rwL w L
  tab : TabOk t (hsL w L)
  nd : (L.map (·.1)).Nodup
  key : ∀ p ∈ L, KeyAt P w h p
  led : w.params.followText "set-order" = true ∨ t.led = true
  mask : t.mask = 7
  few : L.length ≤ 4
/-- the way's state -/
abbrev stp (h : Int) (c : Nat) : SetTable.Probe := nth 7 (runAt 7 (SetTable.bits h % (7 + 1)) (SetTable.bits h)) c
section
variable {P : Program} {w : World} {A : Around} {E : Value → Shared → Prop} {s : Shared} {a : Addr} {L : List (D × Addr)} {es : Array (Int × Value)} {ep : Nat} {t : SetTable}
theorem SetD.esz (R : SetD P w s.heap a L es ep t) : es.size = L.length := by
  rw [← Array.length_toList, R.rows, rwL, List.length_map]
theorem SetD.psz (R : SetD P w s.heap a L es ep t) : t.place.toList.length = L.length := by
  rw [Array.length_toList, R.tab.sz, hsL, List.length_map]
theorem SetD.fit (R : SetD P w s.heap a L es ep t) : t.fits es.size = true := by
  have h1 : t.place.size = L.length := R.tab.sz.trans (by rw [hsL, List.length_map])
  have := R.few
  unfold SetTable.fits SetTable.fill
  rw [R.tab.dm, R.esz, R.mask, h1]
  simp
  omega
theorem SetD.at (R : SetD P w s.heap a L es ep t) {i : Nat} {p : D × Addr} (h : L[i]? = some p) : es[i]? = some (hashD w p.1, Value.ref p.2) := by
  rw [← Array.getElem?_toList, R.rows, rwL, List.getElem?_map, h]
  rfl
theorem SetD.calm (R : SetD P w s.heap a L es ep t) : ¬ t.gaveWay = true := by
  unfold SetTable.gaveWay
  rw [R.mask]
  decide
theorem stp_clean (h : Int) (c : Nat) : (stp h c).dummy = none := by
  have one : ∀ p : SetTable.Probe, p.dummy = none → (adv 7 p).dummy = none := fun p e => by
    unfold adv
    split <;> exact e
  have all : ∀ (n : Nat) (p : SetTable.Probe), p.dummy = none → (nth 7 p n).dummy = none := fun n => by
    induction n with
    | zero => exact fun p e => e
    | succ n ih => exact fun p e => ih _ (one p e)
  exact all c _ rfl
theorem stp_add (h : Int) (c q : Nat) : nth 7 (stp h c) q = stp h (c + q) := (nth_add 7 c _ q).symm
/-- nothing shows in comparing trees -/
theorem seen_tree {k : D} {x : Addr} {Q : Bool → Shared → Prop} (hk : KeyAt P w s.heap (k, x)) {ys : List Value} (hy : ∀ y ∈ ys, ∃ p, KeyAt P w s.heap p ∧ y = Value.ref p.2) (h : Q false s) : wpAny (model P w) A (searchCouldBeSeen (.ref x) ys) Q E s := by
  unfold searchCouldBeSeen
  refine wpAny_bind (wpAny_forIn_list _ (fun rest r s' => r.1 = none ∧ s' = s ∧ ∀ y ∈ rest, ∃ p, KeyAt P w s.heap p ∧ y = Value.ref p.2) _ ?_ ?_ _ _ ⟨rfl, rfl, hy⟩)
  · rintro v rest r s' ⟨hr, rfl, hall⟩
    obtain ⟨⟨k', c⟩, hc, rfl⟩ := hall v List.mem_cons_self
    have more : (none : Option Bool) = none ∧ s' = s' ∧ ∀ y ∈ rest, ∃ p, KeyAt P w s'.heap p ∧ y = Value.ref p.2 := ⟨rfl, rfl, fun u hu => hall u (List.mem_cons_of_mem _ hu)⟩
    dsimp only
    by_cases hv : (x == c || (carriedByValue (.ref x) && carriedByValue (.ref c))) = true
    · exact wp_if_pos hv (wpAny_pure more)
    · refine wp_if_neg hv (wpAny_bind ((treeK P w).quiet hk ?_))
      simp only [Bool.not_true, Bool.false_eq_true, if_false]
      refine wpAny_bind ((treeK P w).quiet hc ?_)
      simp only [Bool.not_true, Bool.false_eq_true, if_false]
      refine wpAny_bind (cls_tree 7 8 _ _ _ _ (by omega) hk.1 hk.2.2 ?_)
      simp only [Bool.false_eq_true, if_false]
      refine wpAny_bind (cls_tree 7 8 _ _ _ _ (by omega) hc.1 hc.2.2 ?_)
      simp only [Bool.false_eq_true, if_false]
      exact wpAny_pure more
  · rintro ⟨r1, r2⟩ s' ⟨hr, rfl, _⟩
    simp only at hr
    subst hr
    exact wpAny_pure h
/-- what the search comes to -/
structure Sought (w : World) (L : List (D × Addr)) (t : SetTable) (k : D) (K : Nat) (Q : SetFound → Shared → Prop) (s : Shared) : Prop where
  lt : K < 10 * SetTable.turns t.mask
  free : way 7 (hashD w k) K ∉ t.place.toList
  full : ∀ c, c < K → way 7 (hashD w k) c ∈ t.place.toList
  hin : k ∈ L.map (·.1) → Q (.there none) s
  hout : k ∉ L.map (·.1) → Q (.free (way 7 (hashD w k) K) false) s
/-- k, if it stands in the set, is met between c and K -/
def Ahead (w : World) (L : List (D × Addr)) (t : SetTable) (k : D) (K c : Nat) : Prop := ∀ (i : Nat) p, L[i]? = some p → p.1 = k → ∃ c', c ≤ c' ∧ c' < K ∧ t.place.toList[i]? = some (way 7 (hashD w k) c')
theorem find_tree (R : SetD P w s.heap a L es ep t) {x : Addr} {k : D} (hx : KeyAt P w s.heap (k, x)) (hu : A.units + 10 < cLine) {K : Nat} {Q : SetFound → Shared → Prop} (Z : Sought w L t k K Q s) :
    ∀ (f c : Nat) (stand : Option SetTable.Probe), stand.getD (t.probeStart (hashD w k)) = stp (hashD w k) c → c ≤ K → K - c < f → Ahead w L t k K c → wpAny (model P w) A (setSearchFrom a (.ref x) (hashD w k) true f stand) Q E s := by
  intro f
  induction f with
  | zero => exact fun c stand _ _ hf _ => absurd hf (Nat.not_lt_zero _)
  | succ f ih =>
    intro c stand hst hc hf hre
    obtain ⟨o, ho, hex, hd⟩ := R.ob
    have wj : ∀ q, (nth 7 (stp (hashD w k) c) q).j = way 7 (hashD w k) (c + q) := fun q => congrArg SetTable.Probe.j (stp_add _ c q)
    have back : c + (K - c) = K := by omega
    have hashOf : ∀ (i : Nat) p, L[i]? = some p → (fun i => (es[i]?.map (·.1)).getD 0) i = hashD w p.1 := fun i p hp => by
      show (es[i]?.map (·.1)).getD 0 = _
      rw [R.at hp]
      rfl
    have mk := R.mask
    have spec := go_spec t R.tab.ris R.tab.dm (fun i => (es[i]?.map (·.1)).getD 0) (hashD w k) (10 * SetTable.turns t.mask) (K - c) (stp (hashD w k) c) (stp_clean _ c) (Nat.lt_of_le_of_lt (Nat.sub_le ..) Z.lt)
      (fun q hq => by rw [mk, wj]; exact Z.full (c + q) (by omega)) (by rw [mk, wj, back]; exact Z.free)
    have go : ∀ {r}, SetTable.probe.go t (fun i => (es[i]?.map (·.1)).getD 0) (hashD w k) (10 * SetTable.turns t.mask) (stp (hashD w k) c) = r → t.probe (fun i => (es[i]?.map (·.1)).getD 0) (hashD w k) (stand.getD (t.probeStart (hashD w k))) = r := fun e => by
      rw [hst]
      exact e
    rw [setSearchFrom_succ]
    refine wpAny_bind (wpAny_setState_of ho hd R.fit ?_)
    dsimp only
    refine wp_if_neg R.calm ?_
    rcases spec with ⟨q, i, hq, hi, hh, hno, hpr⟩ | ⟨hno, hpr⟩
    · rw [go hpr]
      rw [mk, wj] at hi
      dsimp only
      rw [mk, wj, stp_add]
      have hil : i < L.length := by
        rw [← R.psz]
        exact (List.getElem?_eq_some_iff.mp hi).1
      obtain ⟨p, hp⟩ : ∃ p, L[i]? = some p := ⟨_, List.getElem?_eq_getElem hil⟩
      have hpm := List.mem_of_getElem? hp
      have sl : t.slot (way 7 (hashD w k) (c + q)) = .live i := slot_live R.tab.ris hi
      have cont : wpAny (model P w) A (searchRest a (.ref x) (hashD w k) true f es t (way 7 (hashD w k) (c + q)) i (stp (hashD w k) (c + (q + 1)))) Q E s := by
        unfold searchRest
        rw [R.at hp]
        dsimp only
        refine wpAny_bind (wpAny_holding ((treeK P w).eqBool hu (R.key p hpm) hx (wpAny_bind (wpAny_setState_of ho hd R.fit ?_))))
        dsimp only
        by_cases hkk : p.1 = k
        · exact wp_if_pos (by simp [hkk]) (wpAny_pure (Z.hin (List.mem_map.mpr ⟨p, hpm, hkk⟩)))
        · refine wp_if_neg (by simp [hkk]) ?_
          rw [sameMem]
          dsimp only
          simp only [if_true, sl, R.at hp]
          refine wpAny_bind (wpAny_isSame_ref_self (wpAny_bind (wpAny_pure ?_)))
          simp only [if_true]
          refine wp_if_neg (by simp [hkk]) (ih (c + (q + 1)) _ rfl (by omega) (by omega) fun i0 p0 h0 hk0 => ?_)
          obtain ⟨c', a1, a2, a3⟩ := hre i0 p0 h0 hk0
          refine ⟨c', ?_, a2, a3⟩
          rcases Nat.lt_trichotomy c' (c + q) with z | z | z
          · refine absurd ((hashOf i0 p0 h0).trans (congrArg (hashD w) hk0)) (hno (c' - c) i0 (by omega) ?_)
            rw [mk, wj, show c + (c' - c) = c' by omega]
            exact a3
          · rw [z] at a3
            have s0 := slot_live R.tab.ris a3
            rw [sl] at s0
            injection s0 with s0
            rw [← s0, hp] at h0
            exact absurd ((congrArg Prod.fst (Option.some.inj h0)).trans hk0) hkk
          · omega
      by_cases hl : t.led = true
      · refine wp_if_neg (by simp [hl]) ?_
        exact cont
      · refine wp_if_pos (by simp [hl]) (wpAny_bind (seen_tree hx (fun y hy => ?_) (wp_if_neg (by decide) cont)))
        obtain ⟨e, he, rfl⟩ := List.mem_map.mp hy
        have he1 : e ∈ es.toList := by
          have : e ∈ es ∧ e.1 = hashD w k := by simpa using he
          simpa using this.1
        rw [R.rows, rwL] at he1
        obtain ⟨p2, hp2, rfl⟩ := List.mem_map.mp he1
        exact ⟨p2, R.key p2 hp2, rfl⟩
    · rw [go hpr]
      dsimp only
      rw [mk, wj, back]
      refine wpAny_pure (Z.hout fun hm => ?_)
      obtain ⟨p0, h0, hk0⟩ := List.mem_map.mp hm
      obtain ⟨i0, h1⟩ := List.getElem?_of_mem h0
      obtain ⟨c', a1, a2, a3⟩ := hre i0 p0 h1 hk0
      refine hno (c' - c) i0 (by omega) ?_ ((hashOf i0 p0 h1).trans (congrArg (hashD w) hk0))
      rw [mk, wj, show c + (c' - c) = c' by omega]
      exact a3
theorem search_tree (R : SetD P w s.heap a L es ep t) {x : Addr} {k : D} (hx : KeyAt P w s.heap (k, x)) (hu : A.units + 10 < cLine) {Q : SetFound → Shared → Prop} (hin : k ∈ L.map (·.1) → Q (.there none) s)
    (hout : ∀ K, k ∉ L.map (·.1) → way t.mask (hashD w k) K ∉ t.place.toList → (∀ c, c < K → way t.mask (hashD w k) c ∈ t.place.toList) → Q (.free (way t.mask (hashD w k) K) false) s) : wpAny (model P w) A (setSearch a (.ref x) (hashD w k) true) Q E s := by
  have few := R.few
  have mk := R.mask
  obtain ⟨K, hKf, hK, hKb⟩ := R.tab.first (by rw [hsL, List.length_map, mk]; omega) (hashD w k)
  have hbig : K < 100000 := by
    rw [mk] at hKf
    have : 10 * SetTable.turns 7 ≤ 1420 := by
      unfold SetTable.turns
      omega
    omega
  have hK' := hout K
  unfold setSearch
  refine find_tree (K := K) R hx hu ⟨hKf, ?_, ?_, hin, fun hn => ?_⟩ 100000 0 none ?_ (Nat.zero_le _) (by omega) fun i p hp hk => ?_
  · rw [← mk]; exact hK
  · rw [← mk]; exact hKb
  · rw [← mk]; exact hK' hn hK hKb
  · show t.probeStart _ = _
    rw [start_run, mk]
    rfl
  · have hi : (hsL w L)[i]? = some (hashD w k) := by
      rw [hsL, List.getElem?_map, hp, ← hk]
      rfl
    have hil : i < t.place.toList.length := by
      rw [R.psz]
      exact (List.getElem?_eq_some_iff.mp hp).1
    have hj := List.getElem?_eq_getElem hil
    obtain ⟨c, hc, e⟩ := R.tab.before hK hi hj
    refine ⟨c, Nat.zero_le _, hc, ?_⟩
    rw [hj, ← e, mk]
/-- a tree stands through a change of the set -/
theorem key_off {h h' : Heap} {p : D × Addr} {o : Obj} (x : KeyAt P w h p) (ho : h.get? a = some o) (hd : o.data = .set es ep t) (hs : Heap.SameBut a h h') : KeyAt P w h' p := by
  refine ⟨x.1, x.2.1, At.keep' (fun c o' q n e z => ?_) p.1 x.2.2⟩
  have hne : c ≠ a := by
    rintro rfl
    rw [ho] at e
    cases e
    rw [hd] at z
    cases z
  exact (hs.2 c hne).trans e
theorem key_keep {h h' : Heap} {p : D × Addr} (x : KeyAt P w h p) (k : ∀ c o, h.get? c = some o → h'.get? c = some o) : KeyAt P w h' p := ⟨x.1, x.2.1, At.keep' (fun c o q n e _ => k c o e) p.1 x.2.2⟩
/-- a member more -/
theorem add_tree (R : SetD P w s.heap a L es ep t) {x : Addr} {k : D} (hx : KeyAt P w s.heap (k, x)) (hu : A.units + 10 < cLine) (hfew : k ∉ L.map (·.1) → L.length < 4) {Q : Bool → Shared → Prop}
    (hQ : ∀ b h' L' es' ep' t', Heap.SameBut a s.heap h' → SetD P w h' a L' es' ep' t' → (k ∈ L.map (·.1) → L' = L) → (k ∉ L.map (·.1) → L'.Perm ((k, x) :: L)) → Q b { s with heap := h' }) :
    wpAny (model P w) A (setAddHashed a (.ref x) (hashD w k)) Q E s := by
  obtain ⟨o, ho, hex, hd⟩ := R.ob
  unfold setAddHashed
  refine wpAny_holding ?_
  rw [show (100000 : Nat) = 99999 + 1 from rfl, setAddHashedIn_succ]
  refine wpAny_bind (wpAny_setState_of ho hd R.fit ?_)
  dsimp only
  refine wp_if_neg (by simp [byScan, Value.scannable]) (wpAny_bind (search_tree R hx hu (fun hm => ?_) fun K hm hK hb => ?_))
  · exact wpAny_pure (hQ false s.heap L es ep t (Heap.SameBut.refl a s.heap) R (fun _ => rfl) fun z => absurd hm z)
  · dsimp only
    refine wpAny_bind (wpAny_setState_of ho hd R.fit ?_)
    dsimp only
    obtain ⟨q1, q2, q3, q4, q5, q6, q7, q8, q9⟩ := R.tab.put hK hb
    generalize hpt : t.put (way t.mask (hashD w k) K) = pt at q1 q3 q4 q5 q6 q7 q8 q9 ⊢
    obtain ⟨t1, p⟩ := pt
    dsimp only at q1 q3 q4 q5 q6 q7 q8 q9 ⊢
    rw [← q1] at q2 q3
    have hl : (hsL w L).length = L.length := by rw [hsL, List.length_map]
    rw [hl] at q2 q9
    have few := hfew hm
    have pm : (L.take p ++ (k, x) :: L.drop p).Perm ((k, x) :: L) := by
      have z : (L.take p ++ (k, x) :: L.drop p).Perm ((k, x) :: (L.take p ++ L.drop p)) := List.perm_middle
      rwa [List.take_append_drop] at z
    have hrow : (SetTable.insertAt es p (hashD w k, Value.ref x)).toList = rwL w (L.take p ++ (k, x) :: L.drop p) := by
      rw [SetTable.toList_insertAt, R.rows, rwL, rwL, List.map_append, List.map_cons, List.map_take, List.map_drop]
    have hhs : hsL w (L.take p ++ (k, x) :: L.drop p) = (hsL w L).take p ++ hashD w k :: (hsL w L).drop p := by
      rw [hsL, hsL, List.map_append, List.map_cons, List.map_take, List.map_drop]
    rw [← hhs] at q3
    generalize L.take p ++ (k, x) :: L.drop p = L1 at pm hrow q3
    have hlen : L1.length = L.length + 1 := pm.length_eq
    have hes : (SetTable.insertAt es p (hashD w k, Value.ref x)).size = L.length + 1 := by
      rw [← Array.length_toList, hrow, rwL, List.length_map, hlen]
    have nd1 : (L1.map (·.1)).Nodup := (pm.map (·.1)).nodup_iff.mpr (List.nodup_cons.mpr ⟨hm, R.nd⟩)
    generalize SetTable.insertAt es p (hashD w k, Value.ref x) = es1 at hrow hes ⊢
    -- whatever the table says of itself
    have fin : ∀ t2 : SetTable, t2.place = t1.place → t2.dummies = t1.dummies → t2.mask = t1.mask → t2.led = t1.led → t2.fill = t1.fill → wpAny (model P w) A (do
        storeSet a es1 t2
        if !false && t2.tooFull then setRelay a (SetTable.grown (es.size + 1))
        return true) Q E s := fun t2 e1 e2 e3 e4 e5 => by
      refine wpAny_bind (wpAny_storeSet_of ho hd ?_ (by rw [hes, sizeLine_eq]; omega))
      have sb : Heap.SameBut a s.heap (s.heap.update a (Obj.putSet es1 t2)) := Heap.SameBut.update ..
      have ho1 := store_at (es' := es1) (t' := t2) ho hd
      have notF : t2.tooFull = false := by
        unfold SetTable.tooFull
        rw [decide_eq_false_iff_not, e5, e3, q9, q4, R.mask]
        omega
      have T2 : TabOk t2 (hsL w L1) := ⟨e1 ▸ q3.ris, e2 ▸ q3.dm, e1 ▸ q3.sz, e3 ▸ q3.mok, by rw [e1, e3]; exact q3.bd, by rw [e1, e3]; exact q3.reach⟩
      have S2 : SetD P w (s.heap.update a (Obj.putSet es1 t2)) a L1 es1 (ep + 1) t2 := ⟨⟨_, ho1, ⟨hex.1, hex.2.1, hex.2.2⟩, rfl⟩, hrow, T2, nd1, fun p hp => ?_, by rw [e4, q5]; exact R.led, by rw [e3, q4, R.mask], by omega⟩
      · rw [notF]
        exact wpAny_pure (hQ true _ L1 es1 (ep + 1) t2 sb S2 (fun z => absurd z hm) fun _ => pm)
      · rcases List.mem_cons.mp (pm.mem_iff.mp hp) with e | hp
        · rw [e]
          exact key_off hx ho hd sb
        · exact key_off (R.key p hp) ho hd sb
    by_cases hpl : t1.plain = true
    · first
        | (refine wpAny_bind ?_; refine wp_if_pos hpl ?_; refine byv_tree 7 8 _ _ _ _ (by omega) hx.1 hx.2.2 fun c => ?_)
        | refine wp_if_pos hpl (wpAny_bind (byv_tree 7 8 _ _ _ _ (by omega) hx.1 hx.2.2 fun c => ?_))
      cases c
      · exact fin { t1 with plain := false } rfl rfl rfl rfl rfl
      · exact fin t1 rfl rfl rfl rfl rfl
    · first
        | (refine wpAny_bind ?_; refine wp_if_neg hpl (wpAny_pure ?_))
        | refine wp_if_neg hpl (wpAny_bind (wpAny_pure ?_))
        | refine wp_if_neg hpl ?_
      exact fin t1 rfl rfl rfl rfl rfl
end
end Tee
set_option maxRecDepth 100000
set_option maxHeartbeats 4000000
/-! set(list of trees). -/
namespace Tee
open PySem PySem.Spec PyProof.Rows L2
/-- what the set has got from the first i of ks -/
def Gath (ks : List (D × Addr)) (i : Nat) (L : List (D × Addr)) : Prop := (∀ p ∈ L, p ∈ ks) ∧ ∀ p ∈ ks.take i, p.1 ∈ L.map (·.1)
theorem Gath.step {ks L L' : List (D × Addr)} {i : Nat} {p : D × Addr} (g : Gath ks i L) (hp : ks[i]? = some p) (h1 : p.1 ∈ L.map (·.1) → L' = L) (h2 : p.1 ∉ L.map (·.1) → L'.Perm (p :: L)) : Gath ks (i + 1) L' := by
  have e : ks.take (i + 1) = ks.take i ++ [p] := by
    rw [List.take_add_one, hp]
    rfl
  rcases Classical.em (p.1 ∈ L.map (·.1)) with c | c
  · rw [h1 c]
    refine ⟨g.1, fun q hq => ?_⟩
    rw [e] at hq
    rcases List.mem_append.mp hq with z | z
    · exact g.2 q z
    · rw [List.mem_singleton.mp z]
      exact c
  · have pm := h2 c
    refine ⟨fun q hq => ?_, fun q hq => ?_⟩
    · rcases List.mem_cons.mp (pm.mem_iff.mp hq) with z | z
      · rw [z]
        exact List.mem_of_getElem? hp
      · exact g.1 q z
    · rw [(pm.map (·.1)).mem_iff]
      rw [e] at hq
      rcases List.mem_append.mp hq with z | z
      · exact List.mem_cons_of_mem _ (g.2 q z)
      · rw [List.mem_singleton.mp z]
        exact List.mem_cons_self
/-- no more than four of them are distinct -/
def Cap (ks : List (D × Addr)) : Prop := ∀ L : List (D × Addr), (∀ p ∈ L, p ∈ ks) → (L.map (·.1)).Nodup → L.length ≤ 4
section
variable {P : Program} {w : World} {A : Around} {E : Value → Shared → Prop} {s : Shared}
theorem setD_keep {h h' : Heap} {a : Addr} {L : List (D × Addr)} {es : Array (Int × Value)} {ep : Nat} {t : SetTable} (R : SetD P w h a L es ep t) (k : ∀ o, h.get? a = some o → h'.get? a = some o) (q : ∀ p ∈ L, KeyAt P w h' p) : SetD P w h' a L es ep t := by
  obtain ⟨o, ho, r⟩ := R.ob
  exact ⟨⟨o, k o ho, r⟩, R.rows, R.tab, R.nd, q, R.led, R.mask, R.few⟩
abbrev newSet (w : World) : Obj := { cls := .type "set", dict := none, data := .set #[] 0 (.fresh 0 0 (!w.params.followText "set-order")) }
theorem setD_new {h : Heap} {a : Addr} (ho : h.get? a = some (newSet w)) : SetD P w h a [] #[] 0 (.fresh 0 0 (!w.params.followText "set-order")) := by
  refine ⟨⟨_, ho, ⟨rfl, rfl, rfl⟩, rfl⟩, rfl, ⟨List.Pairwise.nil, rfl, rfl, .inl rfl, (fun x hx => by cases hx), (fun i h j hi => by cases hi)⟩, List.nodup_nil, (fun p hp => by cases hp), ?_, rfl, by decide⟩
  show _ ∨ (!w.params.followText "set-order") = true
  cases w.params.followText "set-order"
  · exact .inr rfl
  · exact .inl rfl
/-- the loop of set.update over a list's iterator -/
theorem upd_tree {I S l : Addr} {items : Array Value} {ks : List (D × Addr)} {h0 : Heap} (hh : A.in1.in1.handled = none) (hits : ∀ i : Nat, items[i]? = (ks[i]?).map fun p : D × Addr => Value.ref p.2) (hSI : S ≠ I) (hSl : S ≠ l) (hlI : l ≠ I) (hk : ∀ p ∈ ks, KeyAt P w h0 p) (hS0 : h0.get? S = none) (hI0 : h0.get? I = none)
    (hu : A.units + 20 < cLine) (cap : Cap ks) {R : Result → Shared → Prop} : ∀ (n i : Nat) (s : Shared), ks.length - i = n → i ≤ ks.length → s.heap.IsListIter I l i → s.heap.IsList l items → (∀ b o, h0.get? b = some o → s.heap.get? b = some o) → (∃ L es ep t, SetD P w s.heap S L es ep t ∧ Gath ks i L) →
      (∀ h' tk L es ep t, SetD P w h' S L es ep t → Gath ks ks.length L → (∀ b o, h0.get? b = some o → h'.get? b = some o) → R (.ok (.ret .none)) { s with heap := h', toks := tk }) →
      codeAny (model P w) A (.builtin "set.update.loop" ⟨[.ref S, .ref I], []⟩) R s := by
  intro n
  induction n with
  | zero =>
    intro i s hn hi hit hl hkp ⟨L, es, ep, t, hS, g⟩ hR
    have e : i = ks.length := by omega
    subst e
    refine codeAny_builtin PyProof.Rows.F.entry_set_update_loop ?_
    rw [Around.under_plainId PyProof.Rows.F.plain_set_update_loop _]
    refine wpAny_bind (wpAny_pyNext_list_end hh hit hl (by rw [hits]; simp) fun h' eb => ?_)
    have hkp' : ∀ b o, h0.get? b = some o → h'.get? b = some o := fun b o e => eb b o (fun z => by rw [z, hI0] at e; cases e) (hkp b o e)
    exact wpAny_pure (hR h' s.toks L es ep t (setD_keep hS (fun o e => eb S o hSI e) fun p hp => key_keep (hk p (g.1 p hp)) hkp') g hkp')
  | succ n ih =>
    intro i s hn hi hit hl hkp ⟨L, es, ep, t, hS, g⟩ hR
    obtain ⟨p, hp⟩ : ∃ p, ks[i]? = some p := ⟨_, List.getElem?_eq_getElem (show i < ks.length by omega)⟩
    have pm := List.mem_of_getElem? hp
    refine codeAny_builtin PyProof.Rows.F.entry_set_update_loop ?_
    rw [Around.under_plainId PyProof.Rows.F.plain_set_update_loop _]
    refine wpAny_bind (wpAny_pyNext_list_item hit hl (x := Value.ref p.2) (by rw [hits, hp]; rfl) fun h1 hit1 sb1 => ?_)
    have hkp1 : ∀ b o, h0.get? b = some o → h1.get? b = some o := fun b o e => (sb1.2 b (fun z => by rw [z, hI0] at e; cases e)).trans (hkp b o e)
    have hS1 : SetD P w h1 S L es ep t := setD_keep hS (fun o e => (sb1.2 S hSI).trans e) fun q hq => key_keep (hk q (g.1 q hq)) hkp1
    have hx : KeyAt P w h1 (p.1, p.2) := key_keep (hk p pm) hkp1
    have hl1 : h1.IsList l items := let ⟨o, e, r⟩ := hl; ⟨o, (sb1.2 l hlI).trans e, r⟩
    show wpAny _ A.in1 (holding [Value.ref p.2] (setAdd S (.ref p.2)) >>= _) _ _ { s with heap := h1 }
    refine wpAny_bind (wpAny_holding ?_)
    unfold setAdd
    have u1 : A.in1.units + 10 < cLine := by
      rw [in1_units]
      omega
    refine wpAny_holding (wpAny_bind ((treeK P w).pyHash (show A.in1.units + 10 < cLine from u1) hx ?_))
    refine add_tree (s := { s with heap := h1, toks := s.toks + drawD p.1 }) hS1 hx u1 (fun hm => cap ((p.1, p.2) :: L) (fun q hq => ?_) (List.nodup_cons.mpr ⟨hm, hS.nd⟩)) fun b h' L' es' ep' t' sb2 hS2 c1 c2 => ?_
    · rcases List.mem_cons.mp hq with e | hq
      · rw [e]
        exact pm
      · exact g.1 q hq
    · have hkp2 : ∀ b o, h0.get? b = some o → h'.get? b = some o := fun b o e => (sb2.2 b (fun z => by rw [z, hS0] at e; cases e)).trans (hkp1 b o e)
      have hit2 : h'.IsListIter I l (i + 1) := let ⟨o, e, r⟩ := hit1; ⟨o, (sb2.2 I (Ne.symm hSI)).trans e, r⟩
      have hl2 : h'.IsList l items := let ⟨o, e, r⟩ := hl1; ⟨o, (sb2.2 l (Ne.symm hSl)).trans e, r⟩
      exact wpAny_pure ⟨plainId_quiet PyProof.Rows.F.plain_set_update_loop _, ih (i + 1) { s with heap := h', toks := s.toks + drawD p.1 } (by omega) (by omega) hit2 hl2 hkp2 ⟨L', es', ep', t', hS2, g.step hp c1 c2⟩ fun h3 tk L3 es3 ep3 t3 r1 r2 r3 => hR h3 tk L3 es3 ep3 t3 r1 r2 r3⟩
/-- set(xs) -/
theorem call_setD {l : Addr} {items : Array Value} {ks : List (D × Addr)} {Q : Value → Shared → Prop} (hh : A.handled = none) (hl : s.heap.IsList l items) (hits : ∀ i : Nat, items[i]? = (ks[i]?).map fun p : D × Addr => Value.ref p.2) (hk : ∀ p ∈ ks, KeyAt P w s.heap p) (cap : Cap ks) (hu : A.units + 40 < cLine)
    (h : ∀ (h' : Heap) (tk : Nat) L es ep t, SetD P w h' s.heap.objs.size L es ep t → Gath ks ks.length L → (∀ b o, s.heap.get? b = some o → h'.get? b = some o) → Q (.ref s.heap.objs.size) { s with heap := h', toks := tk }) :
    wpAny (model P w) A (call (.type "set") [.ref l]) Q E s := by
  obtain ⟨c, tl, hmro⟩ := PySem.F.called_set.mro
  have hmade := PySem.F.called_set.made
  have hsub := PySem.F.called_set.sub
  refine wpAny_call (codeAny_of_tree ?_)
  show wpAny _ _ (callAny (.type "set") _) _ _ _
  refine wpAny_pure ⟨Code.quiet_builtin _ (by decide +kernel), codeAny_builtin PySem.F.entry_type_call ?_⟩
  rw [Around.under_plain (weight_type_call_type "set" [.ref l] []) rfl]
  have h1 := PySem.F.called_set.notType
  have h2 := PySem.F.called_set.canCreate
  have hct := PySem.F.typeCall_set_1 (.ref l)
  repeat (any_goals (first | assumption | wp_step))
  have at0 : (s.heap.push (newSet w)).get? s.heap.objs.size = some (newSet w) := Heap.get?_push_size _ rfl
  refine codeAny_mono (code_set_led1 (.ref l) (E := E) (Q₁ := fun obj s₁ => obj = .ref s.heap.objs.size ∧ s₁ = { s with heap := s.heap.push (newSet w) }) ⟨rfl, rfl⟩) fun r s₁ hr => ?_
  cases r with
  | error e => exact hr
  | ok fl =>
    cases fl with
    | ret obj =>
      obtain ⟨rfl, rfl⟩ := hr
      have hT : Shared.TypeIs { s with heap := s.heap.push (newSet w) } (.ref s.heap.objs.size) "set" := ⟨_, at0, rfl⟩
      have hli := PySem.F.called_set.init.lookup
      have hbi := PySem.F.called_set.init.bind (.ref s.heap.objs.size)
      repeat (any_goals (first | assumption | wp_step))
      refine codeAny_mono (codeAny_call_builtin (R := wants (fun r s₂ => r = .none ∧ ∃ h' tk L es ep t, s₂ = { s with heap := h', toks := tk } ∧ SetD P w h' s.heap.objs.size L es ep t ∧ Gath ks ks.length L ∧ (∀ b o, s.heap.get? b = some o → h'.get? b = some o)) E)
        PySem.F.called_set.init.plain PySem.F.entry_set_init (check_set_init_1 hT ?_)) fun r₂ s₂ hr₂ => ?_
      · have hl0 := hl
        obtain ⟨⟨ocls, odict, odata, oslots⟩, hol, hcl, nl, hdl⟩ := hl
        simp only at hcl hdl
        subst hcl
        subst hdl
        have hol' : (s.heap.push (newSet w)).get? l = some { cls := .type "list", dict := odict, data := .seq items nl, slots := oslots } := Heap.get?_push_of_some _ hol
        have hsls := PySem.F.sub_list_set
        have hslf := PySem.F.sub_list_frozenset
        have hne : (Value.type "list" == Value.type "dict") = false := by decide
        have hl1 : (s.heap.push (newSet w)).IsList l items := ⟨_, hol', rfl, nl, rfl⟩
        unfold Builtin.«set.__init__» noKeywords Builtin.Frozenset.updateFrom
        generalize hPI : pyIter = PI
        wp_walk
        subst hPI
        refine wpAny_pyIter_list hl1 (wpAny_bind (wpAny_runValue ?_))
        have lt : l < s.heap.objs.size := Heap.lt_size hol
        have sz : (s.heap.push (newSet w)).objs.size = s.heap.objs.size + 1 := Heap.size_push ..
        have old : ∀ b, s.heap.objs.size ≤ b → s.heap.get? b = none := fun b hb => by
          cases q : s.heap.get? b with
          | none => rfl
          | some o => exact absurd (Nat.lt_of_lt_of_le (Heap.lt_size q) hb) (Nat.lt_irrefl _)
        refine upd_tree (h0 := s.heap) (by simp [hh]) hits ?_ (Nat.ne_of_gt lt) ?_ hk (old _ (Nat.le_refl _)) (old _ ?_) ?_ cap _ 0 _ rfl (Nat.zero_le _) ⟨_, Heap.get?_push_size _ rfl, rfl, rfl⟩ (hl1.push _) (fun b o e => Heap.get?_push_of_some _ (Heap.get?_push_of_some _ e))
          ⟨[], #[], 0, _, setD_new (Heap.get?_push_of_some _ at0), (fun p hp => by cases hp), (fun p hp => by simp at hp)⟩ fun h' tk L es ep t r1 r2 r3 => ?_
        · rw [sz]
          exact Nat.ne_of_lt (Nat.lt_succ_self _)
        · rw [sz]
          exact Nat.ne_of_lt (Nat.lt_succ_of_lt lt)
        · rw [sz]
          exact Nat.le_succ _
        · simp only [in1_units]
          omega
        · show wpAny _ _ _ _ _ _
          refine wpAny_pure ?_
          show wpAny _ _ (ret Value.none) _ _ _
          exact wpAny_pure ⟨rfl, h', tk, L, es, ep, t, rfl, r1, r2, r3⟩
      · cases r₂ with
        | error e => exact hr₂
        | ok fl₂ =>
          cases fl₂ with
          | ret r =>
            obtain ⟨rfl, h', tk, L, es, ep, t, rfl, r1, r2, r3⟩ := hr₂
            repeat (any_goals (first | assumption | wp_step))
            exact h _ _ _ _ _ _ r1 r2 r3
          | _ => exact hr₂.elim
    | _ => exact hr.elim
end
end Tee
set_option maxRecDepth 100000
set_option maxHeartbeats 4000000
/-! sorted(set(list of trees)). -/
namespace Tee
open PySem PySem.Spec PyProof.Rows L2
open SrtO (Swo Srtd Stb SortableO)
theorem nd_le {α : Type} : ∀ {l z : List α}, l.Nodup → (∀ x ∈ l, x ∈ z) → l.length ≤ z.length
  | [], _, _, _ => Nat.zero_le _
  | x :: l, z, h, s => by
    obtain ⟨h1, h2⟩ := List.nodup_cons.mp h
    obtain ⟨a, c, rfl⟩ := List.append_of_mem (s x List.mem_cons_self)
    have := nd_le (z := a ++ c) h2 fun y hy => by
      rcases List.mem_append.mp (s y (List.mem_cons_of_mem _ hy)) with q | q
      · exact List.mem_append_left _ q
      · rcases List.mem_cons.mp q with e | q
        · rw [e] at hy
          exact absurd hy h1
        · exact List.mem_append_right _ q
    rw [List.length_append] at this ⊢
    rw [List.length_cons, List.length_cons]
    omega
theorem memD_ok {x : D} (hx : keyD 7 x = true) : ∀ {l : List D} {r : Bool}, l.all (keyD 7) = true → memD x l = some r → (r = true ↔ x ∈ l)
  | [], r, _, h => by
    cases h
    simp
  | y :: l, r, hl, h => by
    rw [List.all_cons, Bool.and_eq_true] at hl
    rw [memD] at h
    obtain ⟨a, e1, e2⟩ := key_eqv 7 y x hl.1 hx
    have e1 : eqv y x = some a := e1
    rw [e1] at h
    dsimp only at h
    cases hm : memD x l with
    | none =>
      rw [hm] at h
      cases h
    | some c =>
      rw [hm] at h
      cases h
      have ih := memD_ok hx hl.2 hm
      rw [Bool.or_eq_true, e2, ih, List.mem_cons]
      exact ⟨fun z => z.imp (fun z => z.symm) id, fun z => z.imp (fun z => z.symm) id⟩
theorem dedup_ok : ∀ {l z : List D}, l.all (keyD 7) = true → dedup l = some z → z.Nodup ∧ ∀ x, x ∈ z ↔ x ∈ l
  | [], z, _, h => by
    cases h
    exact ⟨List.nodup_nil, fun x => Iff.rfl⟩
  | x :: l, z, hl, h => by
    rw [List.all_cons, Bool.and_eq_true] at hl
    rw [dedup] at h
    cases hd : dedup l with
    | none =>
      rw [hd] at h
      cases h
    | some u =>
      rw [hd] at h
      dsimp only at h
      obtain ⟨n1, n2⟩ := dedup_ok hl.2 hd
      have hu : u.all (keyD 7) = true := List.all_eq_true.mpr fun y hy => List.all_eq_true.mp hl.2 y ((n2 y).mp hy)
      cases hm : memD x u with
      | none =>
        rw [hm] at h
        cases h
      | some c =>
        have mo := memD_ok hl.1 hu hm
        cases c with
        | true =>
          rw [hm] at h
          cases h
          have mx := mo.mp rfl
          refine ⟨n1, fun y => ⟨fun q => List.mem_cons_of_mem _ ((n2 y).mp q), fun q => ?_⟩⟩
          rcases List.mem_cons.mp q with e | q
          · rw [e]
            exact mx
          · exact (n2 y).mpr q
        | false =>
          rw [hm] at h
          cases h
          have nx : x ∉ u := fun q => by
            have := mo.mpr q
            cases this
          refine ⟨List.nodup_cons.mpr ⟨nx, n1⟩, fun y => ?_⟩
          rw [List.mem_cons, List.mem_cons, n2 y]
/-- of what order they come is no matter -/
theorem sort_any {t : Ty} (ht : dpt t ≤ 8) {l z : List D} (p : l.Perm z) (hz : ∀ x ∈ z, hasTy t x = true ∧ keyD 7 x = true) : sortD l = sortD z := by
  have hl : ∀ x ∈ l, hasTy t x = true ∧ keyD 7 x = true := fun x hx => hz x (p.mem_iff.mp hx)
  rw [sortD_eq ht fun d hd => (hl d hd).1, sortD_eq ht fun d hd => (hz d hd).1]
  obtain ⟨a1, a2⟩ := srtB_ok (ltT_swo 8) l
  obtain ⟨b1, b2⟩ := srtB_ok (ltT_swo 8) z
  congr 1
  refine List.Perm.eq_of_pairwise (le := fun x y => ltT 8 y x = false) (fun x y hx hy h1 h2 => ?_) a1 b1 (a2.perm.trans (p.trans b2.perm.symm))
  have mx := hl x (a2.perm.mem_iff.mp hx)
  have my := hz y (b2.perm.mem_iff.mp hy)
  obtain ⟨r, e1, e2⟩ := key_eqv 7 x y mx.2 my.2
  have e3 := (typed t 8 x y ht mx.1 my.1).1
  rw [e3] at e1
  refine e2.mp ?_
  rw [← Option.some.inj e1]
  have T := cmpN_trans 8
  unfold ltT at h1 h2
  have sw := Std.OrientedCmp.eq_swap (cmp := cmpN 8) (a := x) (b := y)
  cases q : cmpN 8 x y with
  | eq => rfl
  | lt =>
    rw [q] at h2
    cases h2
  | gt =>
    rw [q] at sw
    cases q2 : cmpN 8 y x with
    | lt =>
      rw [q2] at h1
      cases h1
    | eq =>
      rw [q2] at sw
      cases sw
    | gt =>
      rw [q2] at sw
      cases sw
section
variable {X : Cx} {b : Bd} {F H : Hp}
theorem same_os {s s' : Shared} (h : s'.os = s.os) : s' = { s with heap := s'.heap, gens := s'.gens, drawn := s'.drawn, toks := s'.toks } := by
  cases s'
  cases s
  cases h
  rfl
/-- the trees with their places -/
def plc : List D → List V → List (D × Addr)
  | d :: l, .ref a :: vs => (d, a) :: plc l vs
  | _, _ => []
theorem plc_ok : ∀ {l : List D} {vs : List V}, (∀ d ∈ l, isTup d = true) → RepL b F l vs → (plc l vs).map (·.1) = l ∧ (∀ p ∈ plc l vs, Rep b F p.1 (.ref p.2)) ∧ ∀ us : List Value, Vals vs us → ∀ i : Nat, us[i]? = ((plc l vs)[i]?).map fun p : D × Addr => Value.ref p.2
  | [], vs, _, r => by
    rw [r.unnil]
    refine ⟨rfl, fun p hp => (by cases hp), fun us hu i => ?_⟩
    cases hu
    rfl
  | d :: l, vs, h, r => by
    obtain ⟨v, t, rfl, h1, h2⟩ := r.uncons
    obtain ⟨a, rfl⟩ := rep_tup (h d List.mem_cons_self) h1
    obtain ⟨e1, e2, e3⟩ := plc_ok (fun x hx => h x (List.mem_cons_of_mem _ hx)) h2
    refine ⟨by rw [plc, List.map_cons, e1], fun p hp => ?_, fun us hu i => ?_⟩
    · rcases List.mem_cons.mp hp with e | hp
      · rw [e]
        exact h1
      · exact e2 p hp
    · cases hu with
      | cons x y =>
        cases x
        cases i with
        | zero => rfl
        | succ i => exact e3 _ y i
theorem repL_plc : ∀ {L : List (D × Addr)}, (∀ p ∈ L, Rep b F p.1 (.ref p.2)) → RepL b F (L.map (·.1)) (L.map fun p => V.ref p.2)
  | [], _ => RepL.nil'
  | p :: L, h => .cons' (h p List.mem_cons_self) (repL_plc fun q hq => h q (List.mem_cons_of_mem _ hq))
theorem vals_plc : ∀ (L : List (D × Addr)), Vals (L.map fun p => V.ref p.2) (L.map fun p => Value.ref p.2)
  | [] => .nil
  | p :: L => .cons rfl (vals_plc L)
/-- the rows in the order in which they are gathered -/
theorem plc_perm : ∀ {vs : List Value} {L : List (D × Addr)}, vs.Perm (L.map fun p => Value.ref p.2) → ∃ L1 : List (D × Addr), L1.Perm L ∧ vs = L1.map fun p => Value.ref p.2
  | vs, L, h => by
    obtain ⟨L1, h1, h2⟩ := perm_map_inv h
    exact ⟨L1, h1, h2⟩
where
  perm_map_inv {vs : List Value} : ∀ {L : List (D × Addr)}, vs.Perm (L.map fun p => Value.ref p.2) → ∃ L1 : List (D × Addr), L1.Perm L ∧ vs = L1.map fun p => Value.ref p.2 := by
    induction vs with
    | nil =>
      intro L h
      have := h.length_eq
      rw [List.length_map] at this
      have e : L = [] := List.length_eq_zero_iff.mp this.symm
      exact ⟨[], by rw [e], rfl⟩
    | cons v vs ih =>
      intro L h
      have hm : v ∈ L.map fun p => Value.ref p.2 := h.mem_iff.mp List.mem_cons_self
      obtain ⟨p, hp, e⟩ := List.mem_map.mp hm
      obtain ⟨a, c, rfl⟩ := List.append_of_mem hp
      have pm : (a ++ p :: c).Perm (p :: (a ++ c)) := List.perm_middle
      have h2 : (v :: vs).Perm (v :: (a ++ c).map fun p => Value.ref p.2) := by
        have := h.trans (pm.map fun p => Value.ref p.2)
        rw [List.map_cons, e] at this
        exact this
      obtain ⟨L1, q1, q2⟩ := ih h2.cons_inv
      exact ⟨p :: L1, (q1.cons p).trans pm.symm, by rw [List.map_cons, e, q2]⟩
def tSrtSet (b : Bd) (K : PySem.W.Frag) (te : TE) : TE := fun σ H Q => te σ H fun x H1 => ∃ F l p vs z zs, Same F H1 ∧ x = .ref p ∧ SqL K H1 p vs ∧ RepL b F l vs ∧ l.all (keyD 7) = true ∧ l.all isTup = true ∧ dedup l = some z ∧ z.length ≤ 4 ∧ sortT (setTy z) z = some zs ∧ ∀ ys p, RepL b F zs ys → H1 p = none → Q (.ref p) (upd H1 p (.lst ys))
theorem setTy_ok (z : List D) : headOk (setTy z) = true ∧ dpt (setTy z) ≤ 8 := by
  unfold setTy
  split <;> exact ⟨by decide, by decide⟩
theorem pe_srtSet {e : Expr} {te : TE} {p p2 q pos : Pos} (ok : Okb b X) (hg : Gl X "sorted") (hm : X.mg "sorted" = none) (hg2 : Gl X "set") (hm2 : X.mg "set" = none) (he : PE X e te) (na : starEach [e] X.env = (false, eval e X.env) :: starEach [] X.env)
    (nb : starEach [Expr.Call (.Name "set" p2) [e] [] q] X.env = (false, eval (Expr.Call (.Name "set" p2) [e] [] q) X.env) :: starEach [] X.env) : PE X (.Call (.Name "sorted" p) [.Call (.Name "set" p2) [e] [] q] [] pos) (tSrtSet b X.K te) := by
  refine ⟨fun pins s σ H Q I h => ?_⟩
  refine Call_ (ld_blt I hg hm boot_sorted (PyProof.Rows.callWith_builtin1 (PyProof.Rows.args_cons (Call_ (ld_blt I hg2 hm2 PyProof.Rows.boot_set (PyProof.Rows.callWith_type1 (PyProof.Rows.args_cons (thn (he.run pins s σ H _ I h) fun v s1 ⟨x, H1, I1, r1, F, l, pa, vs, z, zs, sm, ex, hq, hl, hk, ht, hd, h4, hs, q1⟩ => PyProof.Rows.args_nil ?_) na) na rfl))) nb) nb rfl))
  subst ex
  obtain rfl : v = Value.ref pa := r1
  obtain ⟨its, rv, pl, hz⟩ := I1.list hq
  obtain ⟨k1, k2, k3⟩ := plc_ok (List.all_eq_true.mp ht) hl
  obtain ⟨d1, d2⟩ := dedup_ok hk hd
  have un := ok.un
  have hkey : ∀ p ∈ plc l vs, p.1 ∈ l := fun p hp => by
    rw [← k1]
    exact List.mem_map.mpr ⟨p, hp, rfl⟩
  have sub : ∀ {L : List (D × Addr)}, (∀ p ∈ L, p ∈ plc l vs) → ∀ x ∈ L.map (·.1), x ∈ z := fun hL x hx => by
    obtain ⟨p, hp, rfl⟩ := List.mem_map.mp hx
    exact (d2 _).mpr (hkey p (hL p hp))
  refine call_setD (ks := plc l vs) (I1.ok.hd ok.calm) pl.isList (fun i => by rw [List.getElem?_toArray]; exact k3 its rv i) (fun p hp => ⟨List.all_eq_true.mp hk _ (hkey p hp), List.all_eq_true.mp ht _ (hkey p hp), rep_at ok I1 sm _ (k2 p hp) rfl⟩)
    (fun L hL nd => by
      have := nd_le nd (sub hL)
      rw [List.length_map] at this
      omega) (by omega) fun h' tk L es ep t R g hkp => PyProof.Rows.args_nil ?_
  have I2 : Inv X pins σ H1 { s1 with heap := h', toks := tk } := I1.kept hkp
  obtain ⟨o, ho, hex, hdat⟩ := R.ob
  have few := R.few
  have R : SetD X.prog X.w ({ s1 with heap := h', toks := tk } : Shared).heap s1.heap.objs.size L es ep t := R
  refine sorted_coll (collect_set (A := X.A.in1) (I1.ok.hd ok.calm) (s := { s1 with heap := h', toks := tk }) ⟨o, ho, hex.1, hdat⟩ R.fit (by rw [R.esz]; unfold scanBound; omega) R.tab.ris R.led fun s2 us k4 hz2 g2 o2 pm => ?_)
  have e2 : es.toList.map (·.2) = L.map fun p => Value.ref p.2 := by
    rw [R.rows, rwL, List.map_map]
    rfl
  rw [e2] at pm
  obtain ⟨L1, p1, p2⟩ := plc_perm pm
  have I3 : Inv X pins σ H1 s2 := by
    rw [same_os o2]
    exact I2.call (ch := []) (Un.kept k4) (I2.hok.kept k4) (by rw [g2]; exact I2.bare) fun _ z => nomatch z
  have inK : ∀ p ∈ L1, p ∈ plc l vs := fun p hp => g.1 p (p1.mem_iff.mp hp)
  have pz : (L1.map (·.1)).Perm z := by
    have n1 : (L1.map (·.1)).Nodup := (p1.map (·.1)).nodup_iff.mpr R.nd
    refine (List.perm_ext_iff_of_nodup n1 d1).mpr fun x => ⟨fun hx => sub inK x hx, fun hx => ?_⟩
    rw [(p1.map (·.1)).mem_iff]
    have hx' := (d2 x).mp hx
    rw [← k1] at hx'
    obtain ⟨p, hp, rfl⟩ := List.mem_map.mp hx'
    exact g.2 p (by rw [List.take_length]; exact hp)
  obtain ⟨t1, t2⟩ := setTy_ok z
  obtain ⟨hty, hsd⟩ := sortT_of hs
  have hs1 : sortT (setTy z) (L1.map (·.1)) = some zs := by
    unfold sortT
    have ha : (L1.map (·.1)).all (fun d => hasTy (setTy z) d && full d) = true := List.all_eq_true.mpr fun x hx => by
      have := hty x (pz.mem_iff.mp hx)
      rw [this.1, this.2]
      rfl
    rw [ha]
    show sortD _ = _
    rw [sort_any t2 pz fun x hx => ⟨(hty x hx).1, List.all_eq_true.mp hk x ((d2 x).mp hx)⟩]
    exact hsd
  have rl : RepL b F (L1.map (·.1)) (L1.map fun p => V.ref p.2) := repL_plc fun p hp => k2 p (inK p hp)
  have rv1 : Vals (L1.map fun p => V.ref p.2) us := by
    rw [p2]
    exact vals_plc L1
  have len : us.length ≤ sizeLine := by
    rw [p2, List.length_map, p1.length_eq]
    exact line_le (by omega)
  exact ⟨fun v u => ltT 8 (dec s2.heap (setTy z) v) (dec s2.heap (setTy z) u), ⟨fun x y => (ltT_swo 8).asym _ _, fun x y z => (ltT_swo 8).tr _ _ _⟩, sorted_end ok t1 t2 I3 sm rl rv1 hs1 len q1⟩
theorem r_srtSet {e : Expr} {me : M} {p p2 q pos : Pos} (ok : Okb b X) (hg : Gl X "sorted") (hm : X.mg "sorted" = none) (hg2 : Gl X "set") (hm2 : X.mg "set" = none) (he : PE X e (tE b me)) (na : starEach [e] X.env = (false, eval e X.env) :: starEach [] X.env)
    (nb : starEach [Expr.Call (.Name "set" p2) [e] [] q] X.env = (false, eval (Expr.Call (.Name "set" p2) [e] [] q) X.env) :: starEach [] X.env) : PE X (.Call (.Name "sorted" p) [.Call (.Name "set" p2) [e] [] q] [] pos) (tE b (e1 oSortedSet me)) := (pe_srtSet ok hg hm hg2 hm2 he na nb).weak fun σ H Q ⟨F, G, S, d, S', ee, rel, k⟩ => by
  unfold e1 at ee
  cases hm : me S with
  | no =>
    rw [hm] at ee
    cases ee
  | go x S1 =>
    rw [hm] at ee
    dsimp only at ee
    cases hf : oSortedSet x with
    | none =>
      rw [hf] at ee
      cases ee
    | some y =>
      rw [hf] at ee
      cases ee
      refine ⟨F, G, S, x, S', hm, rel, fun F1 v H1 s1 r1 h1 => ?_⟩
      cases x <;> first | (cases hf; done) | skip
      rename_i l
      unfold oSortedSet at hf
      dsimp only at hf
      split at hf
      · rename_i hk
        rw [Bool.and_eq_true] at hk
        cases hd : dedup l with
        | none =>
          rw [hd] at hf
          cases hf
        | some z =>
          rw [hd] at hf
          dsimp only at hf
          split at hf
          · rename_i h4
            cases hs : sortT (setTy z) z with
            | none =>
              rw [hs] at hf
              cases hf
            | some zs =>
              rw [hs] at hf
              cases hf
              obtain ⟨p, vs, rfl, q1, q2⟩ := lst_of h1
              have k' : Got b F1 G S' σ (.lst zs) Q := fun F2 v2 H2 s2 r2 h2 => k F2 v2 H2 (s1.trans s2) r2 h2
              exact ⟨F1, l, p, vs, z, zs, r1.base.sameF, rfl, SqL.of (r1.base.sameF _ _ q1), q2, hk.1, hk.2, hd, Nat.le_of_ble_eq_true h4, hs, fun ys p hy hp => k'.lst r1 hp hy⟩
          · cases hf
      · cases hf
end
end Tee
set_option maxRecDepth 100000
set_option maxHeartbeats 4000000
/-! The rules in short. -/
namespace Tee
open PySem PySem.Spec PyProof.Rows L2
def visB (sc : Scope) (x : PySem.Str) : Bool := match sc.names.lookup x with
  | some .local => true
  | some .cell => true
  | some .free => true
  | _ => false
theorem vis_of {sc : Scope} {x : PySem.Str} (h : visB sc x = true) : Vis sc x := by
  unfold visB at h
  unfold Vis
  split at h <;> first | (cases h; done) | skip
  · rename_i e; exact .inl e
  · rename_i e; exact .inr (.inl e)
  · rename_i e; exact .inr (.inr e)
def locB (sc : Scope) (x : PySem.Str) : Bool := match sc.names.lookup x with
  | some .local => true
  | some .cell => true
  | _ => false
theorem loc_of {sc : Scope} {x : PySem.Str} (h : locB sc x = true) : L2.Loc sc x := by
  unfold locB at h
  unfold L2.Loc
  split at h <;> first | (cases h; done) | skip
  · rename_i e; exact .inl e
  · rename_i e; exact .inr e
/-- a local, or a captured one where all may be set -/
def stB (X : Cx) (sc : Scope) (x : PySem.Str) : Bool := match sc.names.lookup x with
  | some .local => true
  | _ => X.fn x
theorem st_of {X : Cx} {sc : Scope} {x : PySem.Str} (h : stB X sc x = true) : X.fn x = true ∨ sc.names.lookup x = some .local := by
  unfold stB at h
  split at h
  · rename_i e; exact .inr e
  · exact .inl h
section
variable {X : Cx} {b : Bd} {W : Sg → Hp → Prop}
variable {e o f a c : Expr} {es rest : List Expr} {ma mb mc mo me mf mk mv : M} {l src : L} {pos pos' p p2 p3 apos cpos mpos tpos lpos : Pos} {x y : PySem.Str} {m n : B} {st : Stmt} {sts u : List Stmt}
theorem nV (i : Nat) (hN : X.N[i]? = some x := by exact rfl) (hv : visB X.env.scope x = true := by exact rfl) (hd : (x == ("__debug__" : PySem.Str)) = false := by exact rfl) (hcd : (x == ("__classdict__" : PySem.Str)) = false := by exact rfl) : PE X (.Name x pos) (tE b (eV i)) := r_var hN (vis_of hv) hd hcd
theorem nW (i : Nat) (hN : X.N[i]? = some x := by exact rfl) (hv : visB X.env.scope x = true := by exact rfl) (hd : (x == ("__debug__" : PySem.Str)) = false := by exact rfl) (hcd : (x == ("__classdict__" : PySem.Str)) = false := by exact rfl) : PE X (.Name x pos) (tVar i) := pe_var hN (vis_of hv) hd hcd
theorem nNeg (ha : PE X a (tE b ma)) : PE X (.UnaryOp .USub a pos) (tE b (e1 oNeg ma)) := (pe_un un_neg ha).weak fun _ _ _ q => e1_w v_neg q
theorem nAdd (ok : Okb b X) (ha : PE X a (tE b ma)) (he : PE X e (tE b mb)) : PE X (.BinOp a .Add e pos) (tE b (e2 oAdd ma mb)) := r_op op_addD (v_add ok) ha he
theorem nSub (ok : Okb b X) (ha : PE X a (tE b ma)) (he : PE X e (tE b mb)) : PE X (.BinOp a .Sub e pos) (tE b (e2 oSub ma mb)) := r_op op_sub (v_sub) ha he
theorem nMul (ok : Okb b X) (ha : PE X a (tE b ma)) (he : PE X e (tE b mb)) : PE X (.BinOp a .Mult e pos) (tE b (e2 oMul ma mb)) := r_op op_mulD (v_mul ok) ha he
theorem nMod (ok : Okb b X) (ha : PE X a (tE b ma)) (he : PE X e (tE b mb)) : PE X (.BinOp a .Mod e pos) (tE b (e2 oMod ma mb)) := r_op op_mod (v_mod) ha he
theorem nDiv (ok : Okb b X) (ha : PE X a (tE b ma)) (he : PE X e (tE b mb)) : PE X (.BinOp a .FloorDiv e pos) (tE b (e2 oDiv ma mb)) := r_op op_fdiv (v_div) ha he
theorem nLtI (ok : Okb b X) (ha : PE X a (tE b ma)) (he : PE X e (tE b mb)) (hm : behindInMarks .Lt e = false := by exact rfl) : PE X (.Compare a [.Lt] [e] pos) (tE b (e2 oLtI ma mb)) := r_cmp (op_lt) v_ltI ha he hm
theorem nLtIT (ok : Okb b X) (ha : PE X a (tE b ma)) (he : PE X e (tE b mb)) (hm : behindInMarks .Lt e = false := by exact rfl) : PT X (.Compare a [.Lt] [e] pos) (tT b (e2 oLtI ma mb)) := r_cmpT (op_lt) v_ltI ha he hm
theorem nLeI (ok : Okb b X) (ha : PE X a (tE b ma)) (he : PE X e (tE b mb)) (hm : behindInMarks .LtE e = false := by exact rfl) : PE X (.Compare a [.LtE] [e] pos) (tE b (e2 oLeI ma mb)) := r_cmp (op_le) v_leI ha he hm
theorem nLeIT (ok : Okb b X) (ha : PE X a (tE b ma)) (he : PE X e (tE b mb)) (hm : behindInMarks .LtE e = false := by exact rfl) : PT X (.Compare a [.LtE] [e] pos) (tT b (e2 oLeI ma mb)) := r_cmpT (op_le) v_leI ha he hm
theorem nGtI (ok : Okb b X) (ha : PE X a (tE b ma)) (he : PE X e (tE b mb)) (hm : behindInMarks .Gt e = false := by exact rfl) : PE X (.Compare a [.Gt] [e] pos) (tE b (e2 oGtI ma mb)) := r_cmp (op_gt) v_gtI ha he hm
theorem nGtIT (ok : Okb b X) (ha : PE X a (tE b ma)) (he : PE X e (tE b mb)) (hm : behindInMarks .Gt e = false := by exact rfl) : PT X (.Compare a [.Gt] [e] pos) (tT b (e2 oGtI ma mb)) := r_cmpT (op_gt) v_gtI ha he hm
theorem nGeI (ok : Okb b X) (ha : PE X a (tE b ma)) (he : PE X e (tE b mb)) (hm : behindInMarks .GtE e = false := by exact rfl) : PE X (.Compare a [.GtE] [e] pos) (tE b (e2 oGeI ma mb)) := r_cmp (op_ge) v_geI ha he hm
theorem nGeIT (ok : Okb b X) (ha : PE X a (tE b ma)) (he : PE X e (tE b mb)) (hm : behindInMarks .GtE e = false := by exact rfl) : PT X (.Compare a [.GtE] [e] pos) (tT b (e2 oGeI ma mb)) := r_cmpT (op_ge) v_geI ha he hm
theorem nEq (ok : Okb b X) (ha : PE X a (tE b ma)) (he : PE X e (tE b mb)) (hm : behindInMarks .Eq e = false := by exact rfl) : PE X (.Compare a [.Eq] [e] pos) (tE b (e2 oEq ma mb)) := r_cmp (op_eqT ok) v_eq ha he hm
theorem nEqT (ok : Okb b X) (ha : PE X a (tE b ma)) (he : PE X e (tE b mb)) (hm : behindInMarks .Eq e = false := by exact rfl) : PT X (.Compare a [.Eq] [e] pos) (tT b (e2 oEq ma mb)) := r_cmpT (op_eqT ok) v_eq ha he hm
theorem nNe (ok : Okb b X) (ha : PE X a (tE b ma)) (he : PE X e (tE b mb)) (hm : behindInMarks .NotEq e = false := by exact rfl) : PE X (.Compare a [.NotEq] [e] pos) (tE b (e2 oNe ma mb)) := r_cmp (op_ne) v_ne ha he hm
theorem nNeT (ok : Okb b X) (ha : PE X a (tE b ma)) (he : PE X e (tE b mb)) (hm : behindInMarks .NotEq e = false := by exact rfl) : PT X (.Compare a [.NotEq] [e] pos) (tT b (e2 oNe ma mb)) := r_cmpT (op_ne) v_ne ha he hm
theorem nLt (ok : Okb b X) (ha : PE X a (tE b ma)) (he : PE X e (tE b mb)) (hm : behindInMarks .Lt e = false := by exact rfl) : PE X (.Compare a [.Lt] [e] pos) (tE b (e2 oLt ma mb)) := r_cmp (op_ltD ok) v_lt ha he hm
theorem nLtT (ok : Okb b X) (ha : PE X a (tE b ma)) (he : PE X e (tE b mb)) (hm : behindInMarks .Lt e = false := by exact rfl) : PT X (.Compare a [.Lt] [e] pos) (tT b (e2 oLt ma mb)) := r_cmpT (op_ltD ok) v_lt ha he hm
theorem nIn (ok : Okb b X) (ha : PE X a (tE b ma)) (he : PE X e (tE b mb)) (hm : behindInMarks .In e = false := by exact rfl) : PE X (.Compare a [.In] [e] pos) (tE b (e2 oIn ma mb)) := r_cmp (op_inD ok) v_in ha he hm
theorem nInT (ok : Okb b X) (ha : PE X a (tE b ma)) (he : PE X e (tE b mb)) (hm : behindInMarks .In e = false := by exact rfl) : PT X (.Compare a [.In] [e] pos) (tT b (e2 oIn ma mb)) := r_cmpT (op_inD ok) v_in ha he hm
theorem nNotIn (ok : Okb b X) (ha : PE X a (tE b ma)) (he : PE X e (tE b mb)) (hm : behindInMarks .NotIn e = false := by exact rfl) : PE X (.Compare a [.NotIn] [e] pos) (tE b (e2 oNotIn ma mb)) := r_cmp (op_ninD ok) v_nin ha he hm
theorem nNotInT (ok : Okb b X) (ha : PE X a (tE b ma)) (he : PE X e (tE b mb)) (hm : behindInMarks .NotIn e = false := by exact rfl) : PT X (.Compare a [.NotIn] [e] pos) (tT b (e2 oNotIn ma mb)) := r_cmpT (op_ninD ok) v_nin ha he hm
theorem nCh_LtI_LtI (ha : PE X a (tE b ma)) (he : PE X e (tE b mb)) (hc : PE X c (tE b mc)) (hm : lastMarks [.Lt, .Lt] [e, c] = false := by exact rfl) : PE X (.Compare a [.Lt, .Lt] [e, c] pos) (tE b (eCh oLtI oLtI ma mb mc)) := r_ch op_lt op_lt v_ltI v_ltI ha he hc hm
theorem nCh_LtI_LtIT (ha : PE X a (tE b ma)) (he : PE X e (tE b mb)) (hc : PE X c (tE b mc)) (hm : lastMarks [.Lt, .Lt] [e, c] = false := by exact rfl) : PT X (.Compare a [.Lt, .Lt] [e, c] pos) (tT b (eCh oLtI oLtI ma mb mc)) := r_chT op_lt op_lt v_ltI v_ltI ha he hc hm
theorem nCh_LtI_LeI (ha : PE X a (tE b ma)) (he : PE X e (tE b mb)) (hc : PE X c (tE b mc)) (hm : lastMarks [.Lt, .LtE] [e, c] = false := by exact rfl) : PE X (.Compare a [.Lt, .LtE] [e, c] pos) (tE b (eCh oLtI oLeI ma mb mc)) := r_ch op_lt op_le v_ltI v_leI ha he hc hm
theorem nCh_LtI_LeIT (ha : PE X a (tE b ma)) (he : PE X e (tE b mb)) (hc : PE X c (tE b mc)) (hm : lastMarks [.Lt, .LtE] [e, c] = false := by exact rfl) : PT X (.Compare a [.Lt, .LtE] [e, c] pos) (tT b (eCh oLtI oLeI ma mb mc)) := r_chT op_lt op_le v_ltI v_leI ha he hc hm
theorem nCh_LeI_LtI (ha : PE X a (tE b ma)) (he : PE X e (tE b mb)) (hc : PE X c (tE b mc)) (hm : lastMarks [.LtE, .Lt] [e, c] = false := by exact rfl) : PE X (.Compare a [.LtE, .Lt] [e, c] pos) (tE b (eCh oLeI oLtI ma mb mc)) := r_ch op_le op_lt v_leI v_ltI ha he hc hm
theorem nCh_LeI_LtIT (ha : PE X a (tE b ma)) (he : PE X e (tE b mb)) (hc : PE X c (tE b mc)) (hm : lastMarks [.LtE, .Lt] [e, c] = false := by exact rfl) : PT X (.Compare a [.LtE, .Lt] [e, c] pos) (tT b (eCh oLeI oLtI ma mb mc)) := r_chT op_le op_lt v_leI v_ltI ha he hc hm
theorem nCh_LeI_LeI (ha : PE X a (tE b ma)) (he : PE X e (tE b mb)) (hc : PE X c (tE b mc)) (hm : lastMarks [.LtE, .LtE] [e, c] = false := by exact rfl) : PE X (.Compare a [.LtE, .LtE] [e, c] pos) (tE b (eCh oLeI oLeI ma mb mc)) := r_ch op_le op_le v_leI v_leI ha he hc hm
theorem nCh_LeI_LeIT (ha : PE X a (tE b ma)) (he : PE X e (tE b mb)) (hc : PE X c (tE b mc)) (hm : lastMarks [.LtE, .LtE] [e, c] = false := by exact rfl) : PT X (.Compare a [.LtE, .LtE] [e, c] pos) (tT b (eCh oLeI oLeI ma mb mc)) := r_chT op_le op_le v_leI v_leI ha he hc hm
theorem nTest (ha : PE X a (tE b ma)) (he : ∀ whole, isTrue a X.env whole = (do let v ← whole; standAt a.pos; holding [v] (truthy v)) := by exact fun _ => rfl) : PT X a (tT b ma) := r_test ha he
theorem nTup {k : Nat} (h : PA X es (tA b l)) : PE X (.Tuple es k pos) (tE b (eTup l)) := r_tup h
theorem aC' (ha : PE X a (tE b ma)) (hr : PA X es (tA b l)) (hs : starEach (a :: es) X.env = (false, eval a X.env) :: starEach es X.env := by exact rfl) : PA X (a :: es) (tA b (aC ma l)) := a_cons ha hr hs
theorem aS' (ok : Okb b X) (ha : PE X a (tE b ma)) (hr : PA X es (tA b l)) (hs : starEach (.Starred a p :: es) X.env = (true, eval a X.env) :: starEach es X.env := by exact rfl) : PA X (.Starred a p :: es) (tA b (aS ma l)) := a_star ok.K ha hr hs
theorem nIx (ok : Okb b X) (ha : PE X a (tE b ma)) (hi : PE X e (tE b mb)) (hs : PlainIx e := by exact fun _ _ => rfl) : PE X (.Subscript a e pos) (tE b (e2 oIx ma mb)) := r_ix ok ha hi hs
theorem nFld (ok : Okb b X) (cz : Clz b) (k : Nat) {fl : PySem.Str} (ha : PE X a (tE b ma)) (hk : fields4[k]? = some fl := by exact rfl) (hb : attributeBase a fl X.env (eval a X.env) = eval a X.env := by exact rfl) : PE X (.Attribute a fl pos) (tE b (e1 (oFld k) ma)) := r_fld k ok cz hk ha hb
theorem nLen (ok : Okb b X) (hm : X.mg "len" = none) (ha : PE X a (tE b ma)) (hg : Gl X "len" := by exact rfl) (hs : starEach [a] X.env = (false, eval a X.env) :: starEach [] X.env := by exact rfl) (hpl : (backTo pos (starEach [] X.env)).any (·.1) = false := by exact rfl) : PE X (.Call (.Name "len" p) [a] [] pos) (tE b (e1 oLen ma)) := r_call1 (pe_callB (call_lenX ok) hg hm boot_len (pa_cons ha pa_nil hs) (by decide) (by decide) hs hpl) (v_len ok)
theorem nTuple (ok : Okb b X) (hm : X.mg "tuple" = none) (ha : PE X a (tE b ma)) (hg : Gl X "tuple" := by exact rfl) (hs : starEach [a] X.env = (false, eval a X.env) :: starEach [] X.env := by exact rfl) (hpl : (backTo pos (starEach [] X.env)).any (·.1) = false := by exact rfl) : PE X (.Call (.Name "tuple" p) [a] [] pos) (tE b (e1 oTuple ma)) := r_call1 (pe_callTy (call_tuple_of) hg hm boot_tuple (pa_cons ha pa_nil hs) (by decide) (by decide) hs hpl) (v_tuple ok)
theorem nInt (ok : Okb b X) (hm : X.mg "int" = none) (ha : PE X a (tE b ma)) (hg : Gl X "int" := by exact rfl) (hs : starEach [a] X.env = (false, eval a X.env) :: starEach [] X.env := by exact rfl) (hpl : (backTo pos (starEach [] X.env)).any (·.1) = false := by exact rfl) : PE X (.Call (.Name "int" p) [a] [] pos) (tE b (e1 oInt ma)) := r_call1 (pe_callTy (call_int1) hg hm boot_int (pa_cons ha pa_nil hs) (by decide) (by decide) hs hpl) (v_int)
theorem nAbs (ok : Okb b X) (hm : X.mg "abs" = none) (ha : PE X a (tE b ma)) (hg : Gl X "abs" := by exact rfl) (hs : starEach [a] X.env = (false, eval a X.env) :: starEach [] X.env := by exact rfl) (hpl : (backTo pos (starEach [] X.env)).any (·.1) = false := by exact rfl) : PE X (.Call (.Name "abs" p) [a] [] pos) (tE b (e1 oAbs ma)) := r_call1 (pe_callB (call_abs) hg hm boot_abs (pa_cons ha pa_nil hs) (by decide) (by decide) hs hpl) (v_abs)
theorem nAll (ok : Okb b X) (hm : X.mg "all" = none) (ha : PE X a (tE b ma)) (hg : Gl X "all" := by exact rfl) (hs : starEach [a] X.env = (false, eval a X.env) :: starEach [] X.env := by exact rfl) (hpl : (backTo pos (starEach [] X.env)).any (·.1) = false := by exact rfl) : PE X (.Call (.Name "all" p) [a] [] pos) (tE b (e1 oAll ma)) := r_call1 (pe_callB (cr_all ok.calm) hg hm boot_all (pa_cons ha pa_nil hs) (by decide) (by decide) hs hpl) (v_all)
theorem nSum (ok : Okb b X) (hm : X.mg "sum" = none) (ha : PE X a (tE b ma)) (hg : Gl X "sum" := by exact rfl) (hs : starEach [a] X.env = (false, eval a X.env) :: starEach [] X.env := by exact rfl) (hpl : (backTo pos (starEach [] X.env)).any (·.1) = false := by exact rfl) : PE X (.Call (.Name "sum" p) [a] [] pos) (tE b (e1 oSum ma)) := r_call1 (pe_callB (cr_sum ok.calm) hg hm boot_sum (pa_cons ha pa_nil hs) (by decide) (by decide) hs hpl) (v_sum)
theorem nMinT (ok : Okb b X) (hm : X.mg "min" = none) (ha : PE X a (tE b ma)) (hg : Gl X "min" := by exact rfl) (hs : starEach [a] X.env = (false, eval a X.env) :: starEach [] X.env := by exact rfl) (hpl : (backTo pos (starEach [] X.env)).any (·.1) = false := by exact rfl) : PE X (.Call (.Name "min" p) [a] [] pos) (tE b (e1 oMinT ma)) := r_call1 (pe_callB (cr_minT2 ok) hg hm boot_min (pa_cons ha pa_nil hs) (by decide) (by decide) hs hpl) (v_minT ok)
theorem nSorted (t : Ty) (ok : Okb b X) (hm : X.mg "sorted" = none) (ht : headOk t = true) (hd : dpt t ≤ 8) (ha : PE X a (tE b ma)) (hg : Gl X "sorted" := by exact rfl) (hs : starEach [a] X.env = (false, eval a X.env) :: starEach [] X.env := by exact rfl) (hpl : (backTo pos (starEach [] X.env)).any (·.1) = false := by exact rfl) : PE X (.Call (.Name "sorted" p) [a] [] pos) (tE b (e1 (oSorted t) ma)) := r_call1 (pe_callB (cr_sortX ok ht hd) hg hm boot_sorted (pa_cons ha pa_nil hs) (by decide) (by decide) hs hpl) (v_sorted t ok)
theorem nMin2 (ok : Okb b X) (hm : X.mg "min" = none) (ha : PE X a (tE b ma)) (he : PE X e (tE b mb)) (hg : Gl X "min" := by exact rfl) (hs : starEach [a, e] X.env = (false, eval a X.env) :: starEach [e] X.env := by exact rfl) (hs2 : starEach [e] X.env = (false, eval e X.env) :: starEach [] X.env := by exact rfl) (hpl : (backTo pos (starEach [e] X.env)).any (·.1) = false := by exact rfl) : PE X (.Call (.Name "min" p) [a, e] [] pos) (tE b (e2 oMin2 ma mb)) := r_call2 (pe_callB (cr_minP ok) hg hm boot_min (pa_cons ha (pa_cons he pa_nil hs2) hs) (by decide) (by decide) hs hpl) (v_min2 ok)
theorem nMax2 (ok : Okb b X) (hm : X.mg "max" = none) (ha : PE X a (tE b ma)) (he : PE X e (tE b mb)) (hg : Gl X "max" := by exact rfl) (hs : starEach [a, e] X.env = (false, eval a X.env) :: starEach [e] X.env := by exact rfl) (hs2 : starEach [e] X.env = (false, eval e X.env) :: starEach [] X.env := by exact rfl) (hpl : (backTo pos (starEach [e] X.env)).any (·.1) = false := by exact rfl) : PE X (.Call (.Name "max" p) [a, e] [] pos) (tE b (e2 oMax2 ma mb)) := r_call2 (pe_callB (cr_maxP ok) hg hm boot_max (pa_cons ha (pa_cons he pa_nil hs2) hs) (by decide) (by decide) hs hpl) (v_max2 ok)
theorem nIsInt (ok : Okb b X) (hm : X.mg "isinstance" = none) (hmc : X.mg "int" = none) (ha : PE X a (tE b ma)) (hg : Gl X "isinstance" := by exact rfl) (hgc : Gl X "int" := by exact rfl) (h1 : starEach [a, .Name "int" p2] X.env = (false, eval a X.env) :: starEach [.Name "int" p2] X.env := by exact rfl) (h2 : starEach [.Name "int" p2] X.env = (false, eval (.Name "int" p2) X.env) :: starEach [] X.env := by exact rfl) (h3 : (backTo pos (starEach [.Name "int" p2] X.env)).any (·.1) = false := by exact rfl) : PE X (.Call (.Name "isinstance" p) [a, .Name "int" p2] [] pos) (tE b (e1 oIsInt ma)) := r_isi ok isi_int hg hm hgc hmc (by decide +kernel) (by decide) (by decide) ha h1 h2 h3
theorem nIsBool (ok : Okb b X) (hm : X.mg "isinstance" = none) (hmc : X.mg "bool" = none) (ha : PE X a (tE b ma)) (hg : Gl X "isinstance" := by exact rfl) (hgc : Gl X "bool" := by exact rfl) (h1 : starEach [a, .Name "bool" p2] X.env = (false, eval a X.env) :: starEach [.Name "bool" p2] X.env := by exact rfl) (h2 : starEach [.Name "bool" p2] X.env = (false, eval (.Name "bool" p2) X.env) :: starEach [] X.env := by exact rfl) (h3 : (backTo pos (starEach [.Name "bool" p2] X.env)).any (·.1) = false := by exact rfl) : PE X (.Call (.Name "isinstance" p) [a, .Name "bool" p2] [] pos) (tE b (e1 oIsBool ma)) := r_isi ok isi_bool hg hm hgc hmc (by decide +kernel) (by decide) (by decide) ha h1 h2 h3
theorem nIsTup (ok : Okb b X) (hm : X.mg "isinstance" = none) (hmc : X.mg "tuple" = none) (ha : PE X a (tE b ma)) (hg : Gl X "isinstance" := by exact rfl) (hgc : Gl X "tuple" := by exact rfl) (h1 : starEach [a, .Name "tuple" p2] X.env = (false, eval a X.env) :: starEach [.Name "tuple" p2] X.env := by exact rfl) (h2 : starEach [.Name "tuple" p2] X.env = (false, eval (.Name "tuple" p2) X.env) :: starEach [] X.env := by exact rfl) (h3 : (backTo pos (starEach [.Name "tuple" p2] X.env)).any (·.1) = false := by exact rfl) : PE X (.Call (.Name "isinstance" p) [a, .Name "tuple" p2] [] pos) (tE b (e1 oIsTup ma)) := r_isi ok isi_tup hg hm hgc hmc (by decide +kernel) (by decide) (by decide) ha h1 h2 h3
theorem nIsList (ok : Okb b X) (hm : X.mg "isinstance" = none) (hmc : X.mg "list" = none) (ha : PE X a (tE b ma)) (hg : Gl X "isinstance" := by exact rfl) (hgc : Gl X "list" := by exact rfl) (h1 : starEach [a, .Name "list" p2] X.env = (false, eval a X.env) :: starEach [.Name "list" p2] X.env := by exact rfl) (h2 : starEach [.Name "list" p2] X.env = (false, eval (.Name "list" p2) X.env) :: starEach [] X.env := by exact rfl) (h3 : (backTo pos (starEach [.Name "list" p2] X.env)).any (·.1) = false := by exact rfl) : PE X (.Call (.Name "isinstance" p) [a, .Name "list" p2] [] pos) (tE b (e1 oIsList ma)) := r_isi ok isi_list hg hm hgc hmc (by decide +kernel) (by decide) (by decide) ha h1 h2 h3
theorem nIsLT {k : Nat} (ok : Okb b X) (hm : X.mg "isinstance" = none) (hm1 : X.mg "list" = none) (hm2 : X.mg "tuple" = none) (ha : PE X a (tE b ma)) (hg : Gl X "isinstance" := by exact rfl) (hg1 : Gl X "list" := by exact rfl) (hg2 : Gl X "tuple" := by exact rfl) (h1 : starEach [a, (.Tuple [.Name "list" p2, .Name "tuple" p3] k tpos)] X.env = (false, eval a X.env) :: starEach [(.Tuple [.Name "list" p2, .Name "tuple" p3] k tpos)] X.env := by exact rfl) (h2 : starEach [(.Tuple [.Name "list" p2, .Name "tuple" p3] k tpos)] X.env = (false, eval (.Tuple [.Name "list" p2, .Name "tuple" p3] k tpos) X.env) :: starEach [] X.env := by exact rfl) (h3 : (backTo pos (starEach [(.Tuple [.Name "list" p2, .Name "tuple" p3] k tpos)] X.env)).any (·.1) = false := by exact rfl) (h4 : starEach [.Name "list" p2, .Name "tuple" p3] X.env = (false, eval (.Name "list" p2) X.env) :: starEach [.Name "tuple" p3] X.env := by exact rfl) (h5 : starEach [.Name "tuple" p3] X.env = (false, eval (.Name "tuple" p3) X.env) :: starEach [] X.env := by exact rfl) : PE X (.Call (.Name "isinstance" p) [a, (.Tuple [.Name "list" p2, .Name "tuple" p3] k tpos)] [] pos) (tE b (e1 oIsLT ma)) := r_isi2 ok isi_lt hg hm (pe_bltn hg1 hm1 (by decide +kernel) rfl (by decide) (by decide)) (pe_bltn hg2 hm2 (by decide +kernel) rfl (by decide) (by decide)) ha h1 h2 h3 h4 h5
theorem nIsBS {k : Nat} (ok : Okb b X) (hm : X.mg "isinstance" = none) (hm1 : X.mg "bool" = none) (hm2 : X.mg "str" = none) (ha : PE X a (tE b ma)) (hg : Gl X "isinstance" := by exact rfl) (hg1 : Gl X "bool" := by exact rfl) (hg2 : Gl X "str" := by exact rfl) (h1 : starEach [a, (.Tuple [.Name "bool" p2, .Name "str" p3] k tpos)] X.env = (false, eval a X.env) :: starEach [(.Tuple [.Name "bool" p2, .Name "str" p3] k tpos)] X.env := by exact rfl) (h2 : starEach [(.Tuple [.Name "bool" p2, .Name "str" p3] k tpos)] X.env = (false, eval (.Tuple [.Name "bool" p2, .Name "str" p3] k tpos) X.env) :: starEach [] X.env := by exact rfl) (h3 : (backTo pos (starEach [(.Tuple [.Name "bool" p2, .Name "str" p3] k tpos)] X.env)).any (·.1) = false := by exact rfl) (h4 : starEach [.Name "bool" p2, .Name "str" p3] X.env = (false, eval (.Name "bool" p2) X.env) :: starEach [.Name "str" p3] X.env := by exact rfl) (h5 : starEach [.Name "str" p3] X.env = (false, eval (.Name "str" p3) X.env) :: starEach [] X.env := by exact rfl) : PE X (.Call (.Name "isinstance" p) [a, (.Tuple [.Name "bool" p2, .Name "str" p3] k tpos)] [] pos) (tE b (e1 oIsBS ma)) := r_isi2 ok isi_bs hg hm (pe_bltn hg1 hm1 (by decide +kernel) rfl (by decide) (by decide)) (pe_bltn hg2 hm2 (by decide +kernel) rfl (by decide) (by decide)) ha h1 h2 h3 h4 h5
theorem nSet (ok : Okb b X) (hm : X.mg "sorted" = none) (hm2 : X.mg "set" = none) (he : PE X e (tE b me)) (hg : Gl X "sorted" := by exact rfl) (hg2 : Gl X "set" := by exact rfl) (na : starEach [e] X.env = (false, eval e X.env) :: starEach [] X.env := by exact rfl) (nb : starEach [Expr.Call (.Name "set" p2) [e] [] p3] X.env = (false, eval (Expr.Call (.Name "set" p2) [e] [] p3) X.env) :: starEach [] X.env := by exact rfl) : PE X (.Call (.Name "sorted" p) [.Call (.Name "set" p2) [e] [] p3] [] pos) (tE b (e1 oSortedSet me)) := r_srtSet ok hg hm hg2 hm2 he na nb
theorem nSumV (ok : Okb b X) (hm : X.mg "sum" = none) (hd : PE X o (tE b mo)) (hg : Gl X "sum" := by exact rfl) (hbase : attributeBase o "values" X.env (eval o X.env) = eval o X.env := by exact rfl) (hline : (apos.endLine == mpos.line) = true := by exact rfl) (hse : starEach [Expr.Call (.Attribute o "values" apos) [] [] mpos] X.env = [(false, eval (Expr.Call (.Attribute o "values" apos) [] [] mpos) X.env)] := by exact rfl) : PE X (.Call (.Name "sum" p) [.Call (.Attribute o "values" apos) [] [] mpos] [] pos) (tE b (e1 oSumVals mo)) := r_sumV ok hg hm hd hbase hline hse
theorem nD1 (ok : Okb b X) (ha : PE X a (tE b ma)) (he : PE X e (tE b mb)) (hs : (evalEachOpt [some a] X.env).zip ((evalEach [e] X.env).map fun v => do let x ← v; standAt pos; pure x) = [(some (eval a X.env), do let x ← eval e X.env; standAt pos; pure x)] := by exact rfl) : PE X (.Dict [some a] [e] pos) (tE b (e2 oD1 ma mb)) := r_disp1 ok ha he hs
theorem nGet (ok : Okb b X) (ho : PE X o (tE b mo)) (he : PE X e (tE b me)) (hf : PE X f (tE b mf)) (m : M2 X o "get" apos e f cpos := by exact ⟨rfl, rfl, rfl, rfl⟩) : PE X (.Call (.Attribute o "get" apos) [e, f] [] cpos) (tE b (e3 oGet mo me mf)) := r_get ok ho he hf m
theorem nPkIx (i : Nat) (ok : Okb b X) (hv : PE X (.Name x p) (tVar i)) (he : PE X e (tE b me)) (hs : PlainIx e := by exact fun _ _ => rfl) : PE X (.Subscript (.Name x p) e pos) (tE b (ePkIx i me)) := r_pkIx ok hv he hs
theorem nPkIn (i : Nat) (ok : Okb b X) (he : PE X e (tE b me)) (hv : PE X (.Name x p) (tVar i)) : PE X (.Compare e [.In] [.Name x p] pos) (tE b (ePkIn me i)) := (r_pkIn ok he hv rfl).1
theorem nPkInT (i : Nat) (ok : Okb b X) (he : PE X e (tE b me)) (hv : PE X (.Name x p) (tVar i)) : PT X (.Compare e [.In] [.Name x p] pos) (tT b (ePkIn me i)) := (r_pkIn ok he hv rfl).2
theorem nPkGet (i : Nat) (ok : Okb b X) (hv : PE X (.Name x p) (tVar i)) (he : PE X e (tE b me)) (hf : PE X f (tE b mf)) (m : M2 X (.Name x p) "get" apos e f cpos := by exact ⟨rfl, rfl, rfl, rfl⟩) : PE X (.Call (.Attribute (.Name x p) "get" apos) [e, f] [] cpos) (tE b (ePkGet i me mf)) := r_pkGet ok hv he hf m
theorem nPkSd (i : Nat) (ok : Okb b X) (hv : PE X (.Name x p) (tVar i)) (he : PE X e (tE b me)) (hf : PE X f (tE b mf)) (m : M2 X (.Name x p) "setdefault" apos e f cpos := by exact ⟨rfl, rfl, rfl, rfl⟩) : PE X (.Call (.Attribute (.Name x p) "setdefault" apos) [e, f] [] cpos) (tE b (ePkSd i me mf)) := r_pkSd ok hv he hf m
theorem sSet' (i : Nat) (he : PE X e (tE b me)) (hN : X.N.Nodup) (hi : X.N[i]? = some x := by exact rfl) (hx : locB X.env.scope x = true := by exact rfl) (hf : stB X X.env.scope x = true := by exact rfl) (hs : swapsWith e (some (.Name x pos')) pos.line X.env = pure false := by exact rfl) : PS X (.Assign [.Name x pos'] e pos) (tS b W (sSet i me)) := q_set hN hi (loc_of hx) he hs (st_of hf)
theorem sNewL' (i : Nat) (he : PA X es (tA b l)) (hN : X.N.Nodup) (hi : X.N[i]? = some x := by exact rfl) (hx : locB X.env.scope x = true := by exact rfl) (hf : stB X X.env.scope x = true := by exact rfl) (hs : swapsWith (.List es lpos) (some (.Name x pos')) pos.line X.env = pure false := by exact rfl) : PS X (.Assign [.Name x pos'] (.List es lpos) pos) (tS b W (sNewL i l)) := q_newL hN hi (loc_of hx) he hs (st_of hf)
theorem sNewD' (i : Nat) (hN : X.N.Nodup) (hi : X.N[i]? = some x := by exact rfl) (hx : locB X.env.scope x = true := by exact rfl) (hf : stB X X.env.scope x = true := by exact rfl) (hs : swapsWith (.Dict [] [] lpos) (some (.Name x pos')) pos.line X.env = pure false := by exact rfl) : PS X (.Assign [.Name x pos'] (.Dict [] [] lpos) pos) (tS b W (sNewD i)) := q_newD hN hi (loc_of hx) hs (st_of hf)
theorem sApp' (i : Nat) (hv : PE X (.Name x p) (tVar i)) (he : PE X e (tE b me)) (h1 : attributeBase (.Name x p) "append" X.env (eval (.Name x p) X.env) = eval (.Name x p) X.env := by exact rfl) (h2 : ((backTo cpos (starEach [e] X.env)).all (fun x => !x.1) && (backToKw cpos (keywordEach [] X.env)).all (fun x => x.1.isSome) && decide (([e] : List Expr).length + ([] : List Keyword).length + (if ([] : List Keyword).isEmpty then 0 else 1) < 30)) = true := by exact rfl) (h3 : (apos.endLine == cpos.line) = true := by exact rfl) (h4 : starEach [e] X.env = (false, eval e X.env) :: starEach [] X.env := by exact rfl) (h5 : (backTo cpos (starEach [] X.env)).any (·.1) = false := by exact rfl) (hs : swapsWith (.Call (.Attribute (.Name x p) "append" apos) [e] [] cpos) none pos.line X.env = pure false := by exact rfl) : PS X (.Expr (.Call (.Attribute (.Name x p) "append" apos) [e] [] cpos) pos) (tS b W (sApp i me)) := q_app hv he h1 h2 h3 h4 h5 hs
theorem sExt' (i : Nat) (hv : PE X (.Name x p) (tVar i)) (he : PE X e (tE b me)) (h1 : attributeBase (.Name x p) "extend" X.env (eval (.Name x p) X.env) = eval (.Name x p) X.env := by exact rfl) (h2 : ((backTo cpos (starEach [e] X.env)).all (fun x => !x.1) && (backToKw cpos (keywordEach [] X.env)).all (fun x => x.1.isSome) && decide (([e] : List Expr).length + ([] : List Keyword).length + (if ([] : List Keyword).isEmpty then 0 else 1) < 30)) = true := by exact rfl) (h3 : (apos.endLine == cpos.line) = true := by exact rfl) (h4 : starEach [e] X.env = (false, eval e X.env) :: starEach [] X.env := by exact rfl) (h5 : (backTo cpos (starEach [] X.env)).any (·.1) = false := by exact rfl) (hs : swapsWith (.Call (.Attribute (.Name x p) "extend" apos) [e] [] cpos) none pos.line X.env = pure false := by exact rfl) : PS X (.Expr (.Call (.Attribute (.Name x p) "extend" apos) [e] [] cpos) pos) (tS b W (sExt i me)) := q_ext hv he h1 h2 h3 h4 h5 hs
theorem sPut' (i : Nat) {ipos : Pos} {v : Expr} (ok : Okb b X) (hx : PE X (.Name x p) (tVar i)) (hk : PE X e (tE b mk)) (hv : PE X v (tE b mv)) (hs : swapsWith v (some (.Subscript (.Name x p) e ipos)) pos.line X.env = pure false := by exact rfl) : PS X (.Assign [.Subscript (.Name x p) e ipos] v pos) (tS b W (sPut i mk mv)) := q_put ok hx hk hv hs
theorem sFld' (i k : Nat) {fl : PySem.Str} (ok : Okb b X) (cz : Clz b) (hv : PE X (.Name x p) (tVar i)) (he : PE X e (tE b me)) (hk : fields4[k]? = some fl := by exact rfl) (hs : swapsWith e (some (.Attribute (.Name x p) fl pos')) pos.line X.env = pure false := by exact rfl) : PS X (.Assign [.Attribute (.Name x p) fl pos'] e pos) (tS b W (sFld i k me)) := q_fld ok cz hk hv he hs
theorem sAug' (i : Nat) {op : Operator} {r : TIp} {g : D → D → Option D} (he : PE X e (tE b me)) (ho : PIp X op r) (hr : Val2 b g r) (hN : X.N.Nodup) (hi : X.N[i]? = some x := by exact rfl) (hx : locB X.env.scope x = true := by exact rfl) (hf : stB X X.env.scope x = true := by exact rfl) : PS X (.AugAssign (.Name x pos') op e pos) (tS b W (sAug i g me)) := q_aug hN hi (loc_of hx) he ho hr (st_of hf)
theorem sFor' {tg iter : Expr} {body : List Stmt} {pt : Pt} {bd : B} (hp : PassesOwn (model X.prog X.w) X.A X.env X.xe) (ok : Okb b X) (hi : PI X tg iter (tI b src)) (hg : PG X tg (tGn b 4 pt)) (hb : PSs X body (tS b W bd)) (hs : ∀ x, foldedSetIterable iter X.env x = pure x := by exact fun _ => rfl) : PS X (.For tg iter body [] pos) (tS b W (sFor pt src bd)) := q_for hp ok hi hg hb hs
theorem gN (i : Nat) {k : Nat} (hN : X.N.Nodup) (hi : X.N[i]? = some x := by exact rfl) (hx : locB X.env.scope x = true := by exact rfl) (hf : stB X X.env.scope x = true := by exact rfl) : PG X (.Name x pos) (tGn b (k + 1) (.s i)) := g_name hN hi (loc_of hx) (st_of hf)
theorem gC {k : Nat} {pt : Pt} {ps : List Pt} (h1 : PG X e (tGn b k pt)) (h2 : PGs X es (tGs b k ps)) (hs : (assignEach (e :: es) X.env).map (·.2) = assign e X.env :: (assignEach es X.env).map (·.2) := by exact rfl) : PGs X (e :: es) (tGs b k (pt :: ps)) := gs_cons h1 h2 hs
theorem gT {k n j : Nat} {ps : List Pt} (ok : Okb b X) (h : PGs X es (tGs b k ps)) (hl : ps.length = n := by exact rfl) (hn : (assignEach es X.env).length = n := by exact rfl) (hst : (assignEach es X.env).findIdx? (·.1) = none := by exact rfl) : PG X (.Tuple es j pos) (tGn b (k + 1) (.t ps)) := g_tup ok h hl hn hst
theorem iRange' {tg : Expr} (hm : X.mg "range" = none) (he : PE X e (tE b me)) (hg : Gl X "range" := by exact rfl) (hs : starEach [e] X.env = [(false, eval e X.env)] := by exact rfl) : PI X tg (.Call (.Name "range" p) [e] [] pos) (tI b (iRange me)) := i_range hg hm he hs
theorem iItems' {elts : List Expr} {kk : Nat} (he : PE X e (tE b me)) (hb : attributeBase e "items" X.env (eval e X.env) = eval e X.env := by exact rfl) (hl : (apos.endLine == cpos.line) = true := by exact rfl) : PI X (.Tuple elts kk tpos) (.Call (.Attribute e "items" apos) [] [] cpos) (tI b (iItems me)) := i_items he hb hl
theorem iEnum' {elts : List Expr} {kk : Nat} (ok : Okb b X) (hm : X.mg "enumerate" = none) (he : PE X e (tE b me)) (hg : Gl X "enumerate" := by exact rfl) (hs : starEach [e] X.env = [(false, eval e X.env)] := by exact rfl) : PI X (.Tuple elts kk tpos) (.Call (.Name "enumerate" p) [e] [] pos) (tI b (iEnum me)) := i_enum ok hg hm he hs
theorem iZip' {e2 : Expr} {elts : List Expr} {kk : Nat} (ok : Okb b X) (hm : X.mg "zip" = none) (he : PE X e (tE b ma)) (he2 : PE X e2 (tE b mb)) (hg : Gl X "zip" := by exact rfl) (hs : starEach [e, e2] X.env = (false, eval e X.env) :: starEach [e2] X.env := by exact rfl) (hs2 : starEach [e2] X.env = (false, eval e2 X.env) :: starEach [] X.env := by exact rfl) (hpl : (backTo pos (starEach [e2] X.env)).any (·.1) = false := by exact rfl) : PI X (.Tuple elts kk tpos) (.Call (.Name "zip" p) [e, e2] [] pos) (tI b (iZip ma mb)) := i_zip ok hg hm he he2 hs hs2 hpl
theorem nGlob {d : D} {v : V} {u : Value} (hm : X.mg x = some u) (r : RelV v u) (h : ∀ F, Rep b F d v) (hg : Gl X x := by exact rfl) (hd : (x == ("__debug__" : PySem.Str)) = false := by exact rfl) : PE X (.Name x pos) (tE b (eC d)) := r_const h (pe_glob hg hm r hd)
theorem pC' {r : Pa} (ha : PE X a (tE b ma)) (hr : PA X es (tP b r)) (hs : starEach (a :: es) X.env = (false, eval a X.env) :: starEach es X.env := by exact rfl) : PA X (a :: es) (tP b (pC ma r)) := p_val ha hr hs
theorem pL' {r : Pa} (hr : PA X es (tP b r)) (hs : starEach (.List [] lpos :: es) X.env = (false, eval (.List [] lpos) X.env) :: starEach es X.env := by exact rfl) : PA X (.List [] lpos :: es) (tP b (pL r)) := p_list hr hs
theorem pD' {r : Pa} (hr : PA X es (tP b r)) (hs : starEach (.Dict [] [] lpos :: es) X.env = (false, eval (.Dict [] [] lpos) X.env) :: starEach es X.env := by exact rfl) : PA X (.Dict [] [] lpos :: es) (tP b (pD r)) := p_dict hr hs
theorem sAddL' (i : Nat) (ok : Okb b X) (ha : PE X a (tE b ma)) (he : PE X e (tE b mb)) (hN : X.N.Nodup) (hi : X.N[i]? = some x := by exact rfl) (hx : locB X.env.scope x = true := by exact rfl) (hf : stB X X.env.scope x = true := by exact rfl) (hs : swapsWith (.BinOp a .Add e p) (some (.Name x pos')) pos.line X.env = pure false := by exact rfl) : PS X (.Assign [.Name x pos'] (.BinOp a .Add e p) pos) (tS b W (sAddL i ma mb)) := q_addL ok hN hi (loc_of hx) ha he hs (st_of hf)
theorem sNo' : PS X st (tS b W sNo) := ps_never.weak fun D σ H ⟨F, G, S, rel, h⟩ => h
end
end Tee
set_option maxRecDepth 100000
set_option maxHeartbeats 0
namespace Tee
open PySem PySem.Spec PyProof.Rows L2
def top (i : Nat) : Stmt := PySem.Challenge.pw_teefloors_k48_whole_next_layings.main.body.getD i (.Pass ⟨0, 0, 0, 0⟩)
def inCls (st : Stmt) (j : Nat) : Stmt := match st with | .ClassDef _ _ _ b _ _ _ _ _ _ _ => b.getD j (.Pass ⟨0, 0, 0, 0⟩) | _ => .Pass ⟨0, 0, 0, 0⟩
abbrev s_is_number : Stmt := top 5
abbrev s_is_from : Stmt := top 6
abbrev s_is_long : Stmt := top 7
abbrev s_tupled : Stmt := top 8
abbrev s_ascends : Stmt := top 9
abbrev s_set_of : Stmt := top 10
abbrev s_are_numbers : Stmt := top 11
abbrev s_is_pair : Stmt := top 13
abbrev s_is_floor : Stmt := top 14
abbrev s_sure_floor : Stmt := top 15
abbrev s_is_block_in : Stmt := top 16
abbrev s_pairs_from : Stmt := top 17
abbrev s_blocks_in : Stmt := top 18
abbrev s_is_piece : Stmt := top 21
abbrev s_beside : Stmt := top 22
abbrev s_cells_in : Stmt := top 23
abbrev s_middle_by : Stmt := top 24
abbrev s_own_block_in : Stmt := top 25
abbrev s_sign_in : Stmt := top 26
abbrev s_outward : Stmt := top 27
abbrev s_goes_in : Stmt := top 28
abbrev s_stem_by : Stmt := top 29
abbrev s_piece_out : Stmt := top 30
abbrev s_four_in : Stmt := top 31
abbrev s_tie_in : Stmt := top 32
abbrev s_has_cell : Stmt := top 34
abbrev s_counted : Stmt := top 35
abbrev s_is_laying_in : Stmt := top 36
abbrev s_sure_laying : Stmt := top 37
abbrev s_signs_in : Stmt := top 39
abbrev s_words_in : Stmt := top 40
abbrev s_Rules_init : Stmt := inCls (top 43) 0
abbrev s_Rules_agrees : Stmt := inCls (top 43) 1
abbrev s_Rules_lets : Stmt := inCls (top 43) 2
abbrev s_Rules_crossed : Stmt := inCls (top 43) 3
abbrev s_crossed_face : Stmt := top 44
abbrev s_dot_steps : Stmt := top 45
abbrev s_inner_steps : Stmt := top 46
abbrev s_gone_on : Stmt := top 47
abbrev s_sum_by : Stmt := top 48
abbrev s_rules_in : Stmt := top 49
abbrev s_many_in : Stmt := top 50
abbrev s_sure_short : Stmt := top 51
abbrev s_row_in : Stmt := top 53
abbrev s_laying_by_row : Stmt := top 54
abbrev s_many_begun : Stmt := top 55
abbrev s_begun_rows : Stmt := top 56
abbrev s_number_in : Stmt := top 57
abbrev s_row_at : Stmt := top 58
abbrev s_first_laying : Stmt := top 59
abbrev s_last_laying : Stmt := top 60
abbrev s_next_laying : Stmt := top 61
abbrev s_laying_ahead : Stmt := top 62
abbrev s_w_box : Stmt := top 64
abbrev s_w_take : Stmt := top 65
abbrev s_w_cells : Stmt := top 66
abbrev s_w_of : Stmt := top 67
abbrev s_w_lists : Stmt := top 68
abbrev s_w_same : Stmt := top 69
abbrev s_w_off : Stmt := top 70
abbrev s_w_plots : Stmt := top 71
abbrev s_w_dot : Stmt := top 72
abbrev s_w_dots : Stmt := top 73
abbrev s_w_bonds : Stmt := top 74
abbrev s_w_bond_at : Stmt := top 75
abbrev s_w_pair_at : Stmt := top 76
abbrev s_w_site : Stmt := top 77
abbrev s_w_middle : Stmt := top 78
abbrev s_w_slab : Stmt := top 79
abbrev s_w_joins : Stmt := top 80
abbrev s_w_rounds : Stmt := top 81
abbrev s_w_lots : Stmt := top 82
abbrev s_w_kinds_of : Stmt := top 83
abbrev s_w_laid : Stmt := top 84
abbrev s_w_all_bits : Stmt := top 85
abbrev s_w_signs_by : Stmt := top 86
abbrev s_w_all_spreads : Stmt := top 87
abbrev s_w_row : Stmt := top 88
abbrev s_w_rows : Stmt := top 89
abbrev s_w_heard : Stmt := top 90
abbrev s_w_by_hand_right : Stmt := top 91
abbrev s_w_right : Stmt := top 92
abbrev s_law : Stmt := top 93
def d_is_number : He.DefD := ⟨("is_number", none), "is_number", "is_number", defArgs s_is_number, defBody s_is_number, defScope s_is_number, [], []⟩
def d_is_from : He.DefD := ⟨("is_from", none), "is_from", "is_from", defArgs s_is_from, defBody s_is_from, defScope s_is_from, [], []⟩
def d_is_long : He.DefD := ⟨("is_long", none), "is_long", "is_long", defArgs s_is_long, defBody s_is_long, defScope s_is_long, [], []⟩
def d_tupled : He.DefD := ⟨("tupled", none), "tupled", "tupled", defArgs s_tupled, defBody s_tupled, defScope s_tupled, [], []⟩
def d_ascends : He.DefD := ⟨("ascends", none), "ascends", "ascends", defArgs s_ascends, defBody s_ascends, defScope s_ascends, [], []⟩
def d_set_of : He.DefD := ⟨("set_of", none), "set_of", "set_of", defArgs s_set_of, defBody s_set_of, defScope s_set_of, [], []⟩
def d_are_numbers : He.DefD := ⟨("are_numbers", none), "are_numbers", "are_numbers", defArgs s_are_numbers, defBody s_are_numbers, defScope s_are_numbers, [], []⟩
def d_is_pair : He.DefD := ⟨("is_pair", none), "is_pair", "is_pair", defArgs s_is_pair, defBody s_is_pair, defScope s_is_pair, [], []⟩
def d_is_floor : He.DefD := ⟨("is_floor", none), "is_floor", "is_floor", defArgs s_is_floor, defBody s_is_floor, defScope s_is_floor, [], []⟩
def d_sure_floor : He.DefD := ⟨("sure_floor", none), "sure_floor", "sure_floor", defArgs s_sure_floor, defBody s_sure_floor, defScope s_sure_floor, [], []⟩
def d_is_block_in : He.DefD := ⟨("is_block_in", none), "is_block_in", "is_block_in", defArgs s_is_block_in, defBody s_is_block_in, defScope s_is_block_in, [], []⟩
def d_pairs_from : He.DefD := ⟨("pairs_from", none), "pairs_from", "pairs_from", defArgs s_pairs_from, defBody s_pairs_from, defScope s_pairs_from, [], []⟩
def d_blocks_in : He.DefD := ⟨("blocks_in", none), "blocks_in", "blocks_in", defArgs s_blocks_in, defBody s_blocks_in, defScope s_blocks_in, [], []⟩
def d_is_piece : He.DefD := ⟨("is_piece", none), "is_piece", "is_piece", defArgs s_is_piece, defBody s_is_piece, defScope s_is_piece, [], []⟩
def d_beside : He.DefD := ⟨("beside", none), "beside", "beside", defArgs s_beside, defBody s_beside, defScope s_beside, [], []⟩
def d_cells_in : He.DefD := ⟨("cells_in", none), "cells_in", "cells_in", defArgs s_cells_in, defBody s_cells_in, defScope s_cells_in, [], []⟩
def d_middle_by : He.DefD := ⟨("middle_by", none), "middle_by", "middle_by", defArgs s_middle_by, defBody s_middle_by, defScope s_middle_by, [], []⟩
def d_own_block_in : He.DefD := ⟨("own_block_in", none), "own_block_in", "own_block_in", defArgs s_own_block_in, defBody s_own_block_in, defScope s_own_block_in, [], []⟩
def d_sign_in : He.DefD := ⟨("sign_in", none), "sign_in", "sign_in", defArgs s_sign_in, defBody s_sign_in, defScope s_sign_in, [], []⟩
def d_outward : He.DefD := ⟨("outward", none), "outward", "outward", defArgs s_outward, defBody s_outward, defScope s_outward, [], []⟩
def d_goes_in : He.DefD := ⟨("goes_in", none), "goes_in", "goes_in", defArgs s_goes_in, defBody s_goes_in, defScope s_goes_in, [], []⟩
def d_stem_by : He.DefD := ⟨("stem_by", none), "stem_by", "stem_by", defArgs s_stem_by, defBody s_stem_by, defScope s_stem_by, [], []⟩
def d_piece_out : He.DefD := ⟨("piece_out", none), "piece_out", "piece_out", defArgs s_piece_out, defBody s_piece_out, defScope s_piece_out, [], []⟩
def d_four_in : He.DefD := ⟨("four_in", none), "four_in", "four_in", defArgs s_four_in, defBody s_four_in, defScope s_four_in, [], []⟩
def d_tie_in : He.DefD := ⟨("tie_in", none), "tie_in", "tie_in", defArgs s_tie_in, defBody s_tie_in, defScope s_tie_in, [], []⟩
def d_has_cell : He.DefD := ⟨("has_cell", none), "has_cell", "has_cell", defArgs s_has_cell, defBody s_has_cell, defScope s_has_cell, [], []⟩
def d_counted : He.DefD := ⟨("counted", none), "counted", "counted", defArgs s_counted, defBody s_counted, defScope s_counted, [], []⟩
def d_is_laying_in : He.DefD := ⟨("is_laying_in", none), "is_laying_in", "is_laying_in", defArgs s_is_laying_in, defBody s_is_laying_in, defScope s_is_laying_in, [], []⟩
def d_sure_laying : He.DefD := ⟨("sure_laying", none), "sure_laying", "sure_laying", defArgs s_sure_laying, defBody s_sure_laying, defScope s_sure_laying, [], []⟩
def d_signs_in : He.DefD := ⟨("signs_in", none), "signs_in", "signs_in", defArgs s_signs_in, defBody s_signs_in, defScope s_signs_in, [], []⟩
def d_words_in : He.DefD := ⟨("words_in", none), "words_in", "words_in", defArgs s_words_in, defBody s_words_in, defScope s_words_in, [], []⟩
def d_Rules_init : He.DefD := ⟨("Rules", some "__init__"), "__init__", "Rules.__init__", defArgs s_Rules_init, defBody s_Rules_init, defScope s_Rules_init, [], []⟩
def d_Rules_agrees : He.DefD := ⟨("Rules", some "agrees"), "agrees", "Rules.agrees", defArgs s_Rules_agrees, defBody s_Rules_agrees, defScope s_Rules_agrees, [], []⟩
def d_Rules_lets : He.DefD := ⟨("Rules", some "lets"), "lets", "Rules.lets", defArgs s_Rules_lets, defBody s_Rules_lets, defScope s_Rules_lets, [], []⟩
def d_Rules_crossed : He.DefD := ⟨("Rules", some "crossed"), "crossed", "Rules.crossed", defArgs s_Rules_crossed, defBody s_Rules_crossed, defScope s_Rules_crossed, [], []⟩
def d_crossed_face : He.DefD := ⟨("crossed_face", none), "crossed_face", "crossed_face", defArgs s_crossed_face, defBody s_crossed_face, defScope s_crossed_face, [], []⟩
def d_dot_steps : He.DefD := ⟨("dot_steps", none), "dot_steps", "dot_steps", defArgs s_dot_steps, defBody s_dot_steps, defScope s_dot_steps, [], []⟩
def d_inner_steps : He.DefD := ⟨("inner_steps", none), "inner_steps", "inner_steps", defArgs s_inner_steps, defBody s_inner_steps, defScope s_inner_steps, [], []⟩
def d_gone_on : He.DefD := ⟨("gone_on", none), "gone_on", "gone_on", defArgs s_gone_on, defBody s_gone_on, defScope s_gone_on, [], []⟩
def d_sum_by : He.DefD := ⟨("sum_by", none), "sum_by", "sum_by", defArgs s_sum_by, defBody s_sum_by, defScope s_sum_by, [], []⟩
def d_rules_in : He.DefD := ⟨("rules_in", none), "rules_in", "rules_in", defArgs s_rules_in, defBody s_rules_in, defScope s_rules_in, [], []⟩
def d_many_in : He.DefD := ⟨("many_in", none), "many_in", "many_in", defArgs s_many_in, defBody s_many_in, defScope s_many_in, [], []⟩
def d_sure_short : He.DefD := ⟨("sure_short", none), "sure_short", "sure_short", defArgs s_sure_short, defBody s_sure_short, defScope s_sure_short, [], []⟩
def d_row_in : He.DefD := ⟨("row_in", none), "row_in", "row_in", defArgs s_row_in, defBody s_row_in, defScope s_row_in, [], []⟩
def d_laying_by_row : He.DefD := ⟨("laying_by_row", none), "laying_by_row", "laying_by_row", defArgs s_laying_by_row, defBody s_laying_by_row, defScope s_laying_by_row, [], []⟩
def d_many_begun : He.DefD := ⟨("many_begun", none), "many_begun", "many_begun", defArgs s_many_begun, defBody s_many_begun, defScope s_many_begun, [], []⟩
def d_begun_rows : He.DefD := ⟨("begun_rows", none), "begun_rows", "begun_rows", defArgs s_begun_rows, defBody s_begun_rows, defScope s_begun_rows, [], []⟩
def d_number_in : He.DefD := ⟨("number_in", none), "number_in", "number_in", defArgs s_number_in, defBody s_number_in, defScope s_number_in, [], []⟩
def d_row_at : He.DefD := ⟨("row_at", none), "row_at", "row_at", defArgs s_row_at, defBody s_row_at, defScope s_row_at, [], []⟩
def d_first_laying : He.DefD := ⟨("first_laying", none), "first_laying", "first_laying", defArgs s_first_laying, defBody s_first_laying, defScope s_first_laying, [], []⟩
def d_last_laying : He.DefD := ⟨("last_laying", none), "last_laying", "last_laying", defArgs s_last_laying, defBody s_last_laying, defScope s_last_laying, [], []⟩
def d_next_laying : He.DefD := ⟨("next_laying", none), "next_laying", "next_laying", defArgs s_next_laying, defBody s_next_laying, defScope s_next_laying, [], []⟩
def d_laying_ahead : He.DefD := ⟨("laying_ahead", none), "laying_ahead", "laying_ahead", defArgs s_laying_ahead, defBody s_laying_ahead, defScope s_laying_ahead, [], []⟩
def d_w_box : He.DefD := ⟨("_law_box", none), "_law_box", "_law_box", defArgs s_w_box, defBody s_w_box, defScope s_w_box, [], []⟩
def d_w_take : He.DefD := ⟨("_law_take", none), "_law_take", "_law_take", defArgs s_w_take, defBody s_w_take, defScope s_w_take, [], []⟩
def d_w_cells : He.DefD := ⟨("_law_cells", none), "_law_cells", "_law_cells", defArgs s_w_cells, defBody s_w_cells, defScope s_w_cells, [], []⟩
def d_w_of : He.DefD := ⟨("_law_of", none), "_law_of", "_law_of", defArgs s_w_of, defBody s_w_of, defScope s_w_of, [], []⟩
def d_w_lists : He.DefD := ⟨("_law_lists", none), "_law_lists", "_law_lists", defArgs s_w_lists, defBody s_w_lists, defScope s_w_lists, [], []⟩
def d_w_same : He.DefD := ⟨("_law_same", none), "_law_same", "_law_same", defArgs s_w_same, defBody s_w_same, defScope s_w_same, [], []⟩
def d_w_off : He.DefD := ⟨("_law_off", none), "_law_off", "_law_off", defArgs s_w_off, defBody s_w_off, defScope s_w_off, [], []⟩
def d_w_plots : He.DefD := ⟨("_law_plots", none), "_law_plots", "_law_plots", defArgs s_w_plots, defBody s_w_plots, defScope s_w_plots, [], []⟩
def d_w_dot : He.DefD := ⟨("_law_dot", none), "_law_dot", "_law_dot", defArgs s_w_dot, defBody s_w_dot, defScope s_w_dot, [], []⟩
def d_w_dots : He.DefD := ⟨("_law_dots", none), "_law_dots", "_law_dots", defArgs s_w_dots, defBody s_w_dots, defScope s_w_dots, [], []⟩
def d_w_bonds : He.DefD := ⟨("_law_bonds", none), "_law_bonds", "_law_bonds", defArgs s_w_bonds, defBody s_w_bonds, defScope s_w_bonds, [], []⟩
def d_w_bond_at : He.DefD := ⟨("_law_bond_at", none), "_law_bond_at", "_law_bond_at", defArgs s_w_bond_at, defBody s_w_bond_at, defScope s_w_bond_at, [], []⟩
def d_w_pair_at : He.DefD := ⟨("_law_pair_at", none), "_law_pair_at", "_law_pair_at", defArgs s_w_pair_at, defBody s_w_pair_at, defScope s_w_pair_at, [], []⟩
def d_w_site : He.DefD := ⟨("_law_site", none), "_law_site", "_law_site", defArgs s_w_site, defBody s_w_site, defScope s_w_site, [], []⟩
def d_w_middle : He.DefD := ⟨("_law_middle", none), "_law_middle", "_law_middle", defArgs s_w_middle, defBody s_w_middle, defScope s_w_middle, [], []⟩
def d_w_slab : He.DefD := ⟨("_law_slab", none), "_law_slab", "_law_slab", defArgs s_w_slab, defBody s_w_slab, defScope s_w_slab, [], []⟩
def d_w_joins : He.DefD := ⟨("_law_joins", none), "_law_joins", "_law_joins", defArgs s_w_joins, defBody s_w_joins, defScope s_w_joins, [], []⟩
def d_w_rounds : He.DefD := ⟨("_law_rounds", none), "_law_rounds", "_law_rounds", defArgs s_w_rounds, defBody s_w_rounds, defScope s_w_rounds, [], []⟩
def d_w_lots : He.DefD := ⟨("_law_lots", none), "_law_lots", "_law_lots", defArgs s_w_lots, defBody s_w_lots, defScope s_w_lots, [], []⟩
def d_w_kinds_of : He.DefD := ⟨("_law_kinds_of", none), "_law_kinds_of", "_law_kinds_of", defArgs s_w_kinds_of, defBody s_w_kinds_of, defScope s_w_kinds_of, [], []⟩
def d_w_laid : He.DefD := ⟨("_law_laid", none), "_law_laid", "_law_laid", defArgs s_w_laid, defBody s_w_laid, defScope s_w_laid, [], []⟩
def d_w_all_bits : He.DefD := ⟨("_law_all_bits", none), "_law_all_bits", "_law_all_bits", defArgs s_w_all_bits, defBody s_w_all_bits, defScope s_w_all_bits, [], []⟩
def d_w_signs_by : He.DefD := ⟨("_law_signs_by", none), "_law_signs_by", "_law_signs_by", defArgs s_w_signs_by, defBody s_w_signs_by, defScope s_w_signs_by, [], []⟩
def d_w_all_spreads : He.DefD := ⟨("_law_all_spreads", none), "_law_all_spreads", "_law_all_spreads", defArgs s_w_all_spreads, defBody s_w_all_spreads, defScope s_w_all_spreads, [], []⟩
def d_w_row : He.DefD := ⟨("_law_row", none), "_law_row", "_law_row", defArgs s_w_row, defBody s_w_row, defScope s_w_row, [], []⟩
def d_w_rows : He.DefD := ⟨("_law_rows", none), "_law_rows", "_law_rows", defArgs s_w_rows, defBody s_w_rows, defScope s_w_rows, [], []⟩
def d_w_heard : He.DefD := ⟨("_law_heard", none), "_law_heard", "_law_heard", defArgs s_w_heard, defBody s_w_heard, defScope s_w_heard, [], []⟩
def d_w_by_hand_right : He.DefD := ⟨("_law_by_hand_right", none), "_law_by_hand_right", "_law_by_hand_right", defArgs s_w_by_hand_right, defBody s_w_by_hand_right, defScope s_w_by_hand_right, [], []⟩
def d_w_right : He.DefD := ⟨("_law_right", none), "_law_right", "_law_right", defArgs s_w_right, defBody s_w_right, defScope s_w_right, [], []⟩
def d_law : He.DefD := ⟨("law", none), "law", "law", defArgs s_law, defBody s_law, defScope s_law, [], []⟩
def fn0 : List He.DefD := [d_is_number, d_is_from, d_is_long, d_tupled, d_ascends, d_set_of, d_are_numbers, d_is_pair, d_is_floor, d_sure_floor, d_is_block_in, d_pairs_from, d_blocks_in, d_is_piece, d_beside, d_cells_in, d_middle_by, d_own_block_in, d_sign_in, d_outward, d_goes_in, d_stem_by, d_piece_out, d_four_in, d_tie_in, d_has_cell, d_counted, d_is_laying_in, d_sure_laying, d_signs_in]
def fn1 : List He.DefD := [d_words_in, d_Rules_init, d_Rules_agrees, d_Rules_lets, d_Rules_crossed, d_crossed_face, d_dot_steps, d_inner_steps, d_gone_on, d_sum_by, d_rules_in, d_many_in, d_sure_short, d_row_in, d_laying_by_row, d_many_begun, d_begun_rows, d_number_in, d_row_at, d_first_laying, d_last_laying, d_next_laying, d_laying_ahead, d_w_box, d_w_take, d_w_cells, d_w_of, d_w_lists, d_w_same, d_w_off]
def fn2 : List He.DefD := [d_w_plots, d_w_dot, d_w_dots, d_w_bonds, d_w_bond_at, d_w_pair_at, d_w_site, d_w_middle, d_w_slab, d_w_joins, d_w_rounds, d_w_lots, d_w_kinds_of, d_w_laid, d_w_all_bits, d_w_signs_by, d_w_all_spreads, d_w_row, d_w_rows, d_w_heard, d_w_by_hand_right, d_w_right, d_law]
def fn : List He.DefD := fn0 ++ fn1 ++ fn2
def fa0 : List He.Fa := [.glo "is_number", .glo "is_from", .glo "is_long", .glo "tupled", .glo "ascends", .glo "set_of", .glo "are_numbers", .glo "is_pair", .glo "is_floor", .glo "sure_floor", .glo "is_block_in", .glo "pairs_from", .glo "blocks_in", .glo "is_piece", .glo "beside", .glo "cells_in", .glo "middle_by", .glo "own_block_in", .glo "sign_in", .glo "outward", .glo "goes_in", .glo "stem_by", .glo "piece_out", .glo "four_in", .glo "tie_in", .glo "has_cell", .glo "counted", .glo "is_laying_in", .glo "sure_laying", .glo "signs_in"]
def fa1 : List He.Fa := [.glo "words_in", .glo "crossed_face", .glo "dot_steps", .glo "inner_steps", .glo "gone_on", .glo "sum_by", .glo "rules_in", .glo "many_in", .glo "sure_short", .glo "row_in", .glo "laying_by_row", .glo "many_begun", .glo "begun_rows", .glo "number_in", .glo "row_at", .glo "first_laying", .glo "last_laying", .glo "next_laying", .glo "laying_ahead", .glo "_law_box", .glo "_law_take", .glo "_law_cells", .glo "_law_of", .glo "_law_lists", .glo "_law_same", .glo "_law_off", .glo "_law_plots", .glo "_law_dot", .glo "_law_dots", .glo "_law_bonds"]
def fa2 : List He.Fa := [.glo "_law_bond_at", .glo "_law_pair_at", .glo "_law_site", .glo "_law_middle", .glo "_law_slab", .glo "_law_joins", .glo "_law_rounds", .glo "_law_lots", .glo "_law_kinds_of", .glo "_law_laid", .glo "_law_all_bits", .glo "_law_signs_by", .glo "_law_all_spreads", .glo "_law_row", .glo "_law_rows", .glo "_law_heard", .glo "_law_by_hand_right", .glo "_law_right", .glo "law", .free "len", .free "isinstance", .free "tuple", .free "all", .free "range", .free "sorted", .free "set", .free "int", .free "abs", .free "min", .free "max"]
def fa3 : List He.Fa := [.free "sum", .free "list", .free "enumerate", .free "zip", .free "bool", .free "ValueError", .int "MOST_SHORT" 7, .cls "Rules", .mkr "Rules", .exc "CanNot", .exc "TooMany", .exc "Unfit", .glo "Rules", .glo "CanNot", .glo "TooMany", .glo "Unfit", .exm "CanNot" "CanNot" true, .keep "Rules", .glo "STEPS", .meth "Rules" "agrees", .meth "Rules" "lets", .meth "Rules" "crossed", .noat "Rules" "signs", .noat "Rules" "known", .noat "Rules" "least", .noat "Rules" "only", .free "str"]
def fa : List He.Fa := fa0 ++ fa1 ++ fa2 ++ fa3
def nm0 : List PySem.Str := ["CanNot", "TooMany", "Unfit", "is_number", "is_from", "is_long", "tupled", "ascends", "set_of", "are_numbers", "is_pair", "is_floor", "sure_floor", "is_block_in", "pairs_from", "blocks_in", "STEPS", "is_piece", "beside", "cells_in", "middle_by", "own_block_in", "sign_in", "outward", "goes_in", "stem_by", "piece_out", "four_in", "tie_in", "has_cell"]
def nm1 : List PySem.Str := ["counted", "is_laying_in", "sure_laying", "signs_in", "words_in", "MOST_SHORT", "Rules", "crossed_face", "dot_steps", "inner_steps", "gone_on", "sum_by", "rules_in", "many_in", "sure_short", "row_in", "laying_by_row", "many_begun", "begun_rows", "number_in", "row_at", "first_laying", "last_laying", "next_laying", "laying_ahead", "_law_box", "_law_take", "_law_cells", "_law_of", "_law_lists"]
def nm2 : List PySem.Str := ["_law_same", "_law_off", "_law_plots", "_law_dot", "_law_dots", "_law_bonds", "_law_bond_at", "_law_pair_at", "_law_site", "_law_middle", "_law_slab", "_law_joins", "_law_rounds", "_law_lots", "_law_kinds_of", "_law_laid", "_law_all_bits", "_law_signs_by", "_law_all_spreads", "_law_row", "_law_rows", "_law_heard", "_law_by_hand_right", "_law_right"]
def names : List PySem.Str := nm0 ++ nm1 ++ nm2
abbrev Rw : PySem.W.OpenRow := PySem.W.OpenLaw.row PySem.Challenge.rw_teefloors_k48_whole_next_layings
def LAWI : Nat := 93
/-! ### more facts: the class CanNot; STEPS -/
def cnA (K : PySem.W.Frag) : Addr := He.ga K "CanNot"
def cnB (K : PySem.W.Frag) : Bool :=
  He.eqO (PySem.W.findIn K (.ref (cnA K)) "__getattribute__") (some (some (.builtin "BaseException.__getattribute__"))) &&
  (He.eqO (PySem.W.findIn K (.ref (cnA K)) "__getattr__") (some none) &&
  (decide (PySem.W.subIn K (.ref (cnA K)) (.type "BaseException") = some true) &&
  (PySem.W.hasDictIn K (cnA K) &&
  (He.eqO (PySem.W.findIn K (.ref (cnA K)) "__class__") (some (some (.builtin "object.__class__"))) &&
  (He.eqO (PySem.W.specialIn K (.builtin "object.__class__") "__get__") (some (some (.builtin "getset_descriptor.__get__"))) &&
  (decide (PySem.W.takesIn K (.builtin "object.__class__") = some true) &&
  (decide (PySem.W.mroIn K (cnA K) (.type "object") = some true) &&
  decide (PySem.W.kitOne K (.ref (cnA K)) (.type "ValueError") = some true))))))))
def pairB (K : PySem.W.Frag) (a : Value) (i j : Int) : Bool := match a with
  | .ref T => (match K.lookup T with
    | some ⟨.type c, _, .seq its _, _⟩ => decide (c = "tuple") && (decide (its.size ≤ sizeLine) && He.relAll [.int i, .int j] its.toList)
    | _ => false)
  | _ => false
def stepB (K : PySem.W.Frag) : Bool := match K.lookup (He.ga K "STEPS") with
  | some ⟨.type c, _, .seq its _, _⟩ => decide (c = "tuple") && (decide (its.size ≤ sizeLine) && (match its.toList with
    | [p, q, r, t] => pairB K p 1 0 && (pairB K q 0 1 && (pairB K r (-1) 0 && pairB K t 0 (-1)))
    | _ => false))
  | _ => false
def exB (K : PySem.W.Frag) : Bool := cnB K && stepB K
def obsE (K : PySem.W.Frag) : He.AlD := ((He.obsD fa fn K).1 && exB K, (He.obsD fa fn K).2)
theorem obsE_ok {K : PySem.W.Frag} (e : obsE K = He.valD fn) : He.SaysD fa fn K ∧ exB K = true := by
  have e1 : ((He.obsD fa fn K).1 && exB K) = true := by
    have := congrArg (fun z : He.AlD => z.1) e
    exact this
  have e2 : (He.obsD fa fn K).2 = (He.valD fn).2 := by
    have := congrArg (fun z : He.AlD => z.2) e
    exact this
  obtain ⟨h1, h2⟩ := Bool.and_eq_true_iff.mp e1
  exact ⟨Prod.ext h1 e2, h2⟩
/-- what is looked at: the names' objects, their code, classes' names, tuples' items -/
def refQ (o : Obj) : List Addr := match o.data with
  | .seq its _ => its.toList.flatMap He.refV
  | .dict es _ => es.toList.flatMap fun e => He.refV e.val
  | .func fd => He.refV fd.code
  | .cls cd => [cd.ns]
  | _ => []
def nextQ (g : Addr → Option Obj) (as : List Addr) : List Addr := as.flatMap fun a => match g a with
  | some o => refQ o
  | none => []
/-- a list of numbers worked out, then k -/
def wkN {α : Type} (n : Nat) (k : Nat → α) : α := match n with
  | 0 => k 0
  | m + 1 => k (m + 1)
def wkL {α : Type} : List Nat → (List Nat → α) → α
  | [], k => k []
  | a :: r, k => wkN a fun a => wkL r fun r => k (a :: r)
theorem wkN_eq {α : Type} (n : Nat) (k : Nat → α) : wkN n k = k n := by cases n <;> rfl
theorem wkL_eq {α : Type} : ∀ (l : List Nat) (k : List Nat → α), wkL l k = k l
  | [], _ => rfl
  | a :: r, k => by
    unfold wkL
    rw [wkN_eq, wkL_eq r]
def asQ (g : Addr → Option Obj) : List Addr :=
  wkL (nextQ g [mainGlobals]) fun l1 => wkL (nextQ g l1) fun l2 => wkL (nextQ g l2) fun l3 => wkL (nextQ g l3) fun l4 => mainGlobals :: (l1 ++ (l2 ++ (l3 ++ l4)))
def obsEG (g : Addr → Option Obj) : He.AlD := wkL (asQ g) fun as => obsE (He.frG g as)
theorem obsEG_eq (g : Addr → Option Obj) : obsEG g = obsE (He.frG g (asQ g)) := wkL_eq _ _
def hk : PySem.W.Hook where
  α := He.AlD
  obs := fun s => obsEG s.heap.get?
  val := fun _ => He.valD fn
  says := fun _ h => ∃ K : PySem.W.Frag, K.In h ∧ (He.SaysD fa fn K ∧ exB K = true)
  of := fun _ _ e => ⟨_, He.frG_in, obsE_ok ((obsEG_eq _).symm.trans e)⟩
  keeps := fun _ _ _ ⟨K, hK, c⟩ k => ⟨K, PySem.W.Frag.In.keeps hK k, c⟩
def hob (s : PySem.W.SharedT) : He.AlD := obsEG (HandSHeadRun.getT s)
theorem hob_eq (s : PySem.W.SharedT) : hob s = hk.obs s.abs := by
  have e : HandSHeadRun.getT s = s.abs.heap.get? := funext (HandSHeadRun.getT_eq s)
  show obsEG (HandSHeadRun.getT s) = obsEG s.abs.heap.get?
  rw [e]
theorem run (w : World) : HandSHeadRun.RunEq Rw (PySem.W.view Rw.prog [LAWI]) hk hob 12000 names w := by
  intro os
  kernel_rfl
end Tee
set_option maxRecDepth 100000
set_option maxHeartbeats 4000000
/-! From a body to its def. -/
namespace Tee
open PySem PySem.Spec PyProof.Rows L2
theorem pad_len : ∀ (n : Nat) (ds : List D), (pad n ds).length = n
  | 0, _ => rfl
  | n + 1, [] => congrArg (· + 1) (pad_len n [])
  | n + 1, _ :: r => congrArg (· + 1) (pad_len n r)
theorem gets_pad : ∀ (n : Nat) (ds : List D) (i : Nat), gets (pad n ds) i = .no ∨ ∃ d, ds[i]? = some d ∧ gets (pad n ds) i = .val d
  | 0, _, _ => .inl rfl
  | n + 1, [], 0 => .inl rfl
  | n + 1, [], i + 1 => by
    rcases gets_pad n [] i with h | ⟨d, h, _⟩
    · exact .inl h
    · cases h
  | n + 1, x :: r, 0 => .inr ⟨x, rfl, rfl⟩
  | n + 1, x :: r, i + 1 => gets_pad n r i
theorem rel_start {b : Bd} {N : List PySem.Str} {ds : List D} {vs : List V} {F H : Hp} (hF : b.F0 = F) (hH : b.H0 = H) (sm : Same F H) (rl : RepL b F ds vs) (hn : vs.length ≤ N.length) : Rel b F [] (pad N.length ds) (L2.start N vs) H := by
  have nl : ∀ i a, ¬ LiveAt (pad N.length ds) (L2.start N vs) i a := fun i a l => by
    have := l.1
    rcases gets_pad N.length ds i with h | ⟨d, _, h⟩ <;> rw [h] at this <;> cases this
  refine ⟨⟨sm, by rw [hH]; exact Same.refl H, by rw [hF]; exact Same.refl F, fun a h => .inl (by rw [hF]; exact h), fun p hp => by cases hp⟩, ?_, fun i => ?_, fun i j a x _ => absurd x (nl i a), fun p hp => by cases hp⟩
  · rw [pad_len, L2.start, List.length_append, List.length_map, List.length_replicate]
    omega
  · rcases gets_pad N.length ds i with h | ⟨d, hd, h⟩
    · rw [h]
      exact True.intro
    · rw [h]
      obtain ⟨v, e1, e2⟩ := rl.get hd
      refine ⟨v, ?_, e2⟩
      have hi : i < vs.length := (List.getElem?_eq_some_iff.mp e1).1
      rw [L2.start, List.getElem?_append_left (by rw [List.length_map]; exact hi), List.getElem?_map, e1]
      rfl
def fnName : Nat → PySem.Str
  | 0 => "dot_steps"
  | 1 => "inner_steps"
  | 2 => "first_laying"
  | 3 => "last_laying"
  | 4 => "next_laying"
  | _ => "laying_ahead"
def bd0 (K : PySem.W.Frag) (w : World) : Bd := ⟨K, w, fun j => He.ga K (fnName j), He.ga K "Rules", fun _ => none, fun _ => none⟩
def bd1 (K : PySem.W.Frag) (w : World) (F H : Hp) : Bd := ⟨K, w, fun j => He.ga K (fnName j), He.ga K "Rules", F, H⟩
theorem bd_eqv {K : PySem.W.Frag} {w : World} {F H : Hp} : (bd1 K w F H).Eqv (bd0 K w) := ⟨rfl, rfl, rfl, rfl⟩
section
variable {P : Program} {w : World} {K : PySem.W.Frag} {mg : PySem.Str → Option Value} {base : Heap}
/-- what holds behind the top -/
structure Hd (K : PySem.W.Frag) (mg : PySem.Str → Option Value) : Prop where
  c : He.SaysD fa fn K
  h : ∃ h, K.In h ∧ h.Ns mainGlobals mg
  ex : exB K = true
theorem Hd.glo (e : Hd K mg) {x : PySem.Str} (i : Nat) (h : fa[i]? = some (.glo x)) : mg x = some (.ref (He.ga K x)) := let ⟨_, X, G⟩ := e.h; He.glo_ok X G (e.c.fact i h)
theorem Hd.free (e : Hd K mg) {x : PySem.Str} (i : Nat) (h : fa[i]? = some (.free x)) : mg x = none := let ⟨_, X, G⟩ := e.h; He.free_ok X G (e.c.fact i h)
theorem seq_tup {K : PySem.W.Frag} {T : Addr} {vs : List V} {F : Hp} {c : String} {od : Option Addr} {its : Array Value} {n : Nat} {sl : Array (Option Value)} (q : K.lookup T = some ⟨.type c, od, .seq its n, sl⟩) (hc : c = "tuple") (hs : its.size ≤ sizeLine) (hr : Vals vs its.toList) : SqT K F T vs :=
  .inr ⟨_, its, n, q, congrArg Value.type hc, rfl, hs, hr⟩
theorem pairB_ok {K : PySem.W.Frag} {a : Value} {i j : Int} (h : pairB K a i j = true) : ∃ T, a = .ref T ∧ ∀ w F, Rep (bd0 K w) F (dP i j) (.ref T) := by
  unfold pairB at h
  split at h
  · rename_i T
    split at h
    · rename_i c od its n sl q
      obtain ⟨h1, h2⟩ := Bool.and_eq_true_iff.mp h
      obtain ⟨h3, h4⟩ := Bool.and_eq_true_iff.mp h2
      refine ⟨T, rfl, fun w F => ?_⟩
      unfold dP
      rw [Rep]
      exact ⟨T, [.int i, .int j], rfl, seq_tup q (of_decide_eq_true h1) (of_decide_eq_true h3) (He.relAll_ok h4), .cons' Rep.int' (.cons' Rep.int' .nil')⟩
    · cases h
  · cases h
theorem stepB_ok {K : PySem.W.Frag} (h : stepB K = true) : ∀ w F, Rep (bd0 K w) F dSTEPS (.ref (He.ga K "STEPS")) := by
  unfold stepB at h
  split at h
  · rename_i c od its n sl q
    obtain ⟨h1, h2⟩ := Bool.and_eq_true_iff.mp h
    obtain ⟨h3, h4⟩ := Bool.and_eq_true_iff.mp h2
    split at h4
    · rename_i v0 v1 v2 v3 hl
      obtain ⟨k0, h4⟩ := Bool.and_eq_true_iff.mp h4
      obtain ⟨k1, h4⟩ := Bool.and_eq_true_iff.mp h4
      obtain ⟨k2, k3⟩ := Bool.and_eq_true_iff.mp h4
      obtain ⟨T0, rfl, r0⟩ := pairB_ok k0
      obtain ⟨T1, rfl, r1⟩ := pairB_ok k1
      obtain ⟨T2, rfl, r2⟩ := pairB_ok k2
      obtain ⟨T3, rfl, r3⟩ := pairB_ok k3
      intro w F
      unfold dSTEPS
      rw [Rep]
      exact ⟨_, [.ref T0, .ref T1, .ref T2, .ref T3], rfl, seq_tup q (of_decide_eq_true h1) (of_decide_eq_true h3) (by rw [hl]; exact .cons rfl (.cons rfl (.cons rfl (.cons rfl .nil)))), .cons' (r0 w F) (.cons' (r1 w F) (.cons' (r2 w F) (.cons' (r3 w F) .nil')))⟩
    · cases h4
  · cases h
theorem Hd.st (e : Hd K mg) : ∃ p, mg "STEPS" = some (.ref p) ∧ ∀ w F, Rep (bd0 K w) F dSTEPS (.ref p) :=
  ⟨_, e.glo 108 rfl, stepB_ok (Bool.and_eq_true_iff.mp e.ex).2⟩
/-- a def keeps a promise -/
def Has (P : Program) (w : World) (K : PySem.W.Frag) (mg : PySem.Str → Option Value) (base : Heap) (p : PySem.Str × Option PySem.Str) (k : Nat) (ps : List PySem.Str) (sp : Sp) : Prop :=
  ∃ fd, FnOk P w K mg base CX0 k (He.fAd K p) fd ps sp ∧ Binds K fd ps [] ∧ PySem.W.keepIn K (.ref (He.fAd K p)) = true
/-- a body's derivation, in its def's context -/
def Body (P : Program) (w : World) (K : PySem.W.Frag) (mg : PySem.Str → Option Value) (base : Heap) (N : List PySem.Str) (d : He.DefD) (k : Nat) (m : B) : Prop :=
  ∀ (f : Addr) (cdv : Value) (A : Around) (outer : List Env) (s : Shared) (F H : Hp) (E : XK), Okb (bd1 K w F H) (cxOf CX0 P w K mg base N d.qual d.scope f cdv A outer s H E).nox → Room k (cxOf CX0 P w K mg base N d.qual d.scope f cdv A outer s H E).nox.A →
    PSs (cxOf CX0 P w K mg base N d.qual d.scope f cdv A outer s H E).nox d.body (tS (bd1 K w F H) (fun _ _ => False) m)
theorem fn_lift {N ps : List PySem.Str} {k : Nat} {d : He.DefD} {f : Addr} {fd : FuncData} {m : B} (Fn : FunD K d.name d.qual d.params d.body d.scope (d.dvs K) (d.kws K) f fd) (S : FnScope N ps d.scope) (hb : Body P w K mg base N d k m) :
    FnOk P w K mg base CX0 (k + 1) f fd ps (spF (bd0 K w) ps.length (runF ps.length N.length m)) := by
  refine Fn.ok S (fun vs H Q E h => h.1) fun cdv A outer s H vs Q E hr ⟨hl, F0, ds, d', hg, sm, rl, q⟩ => ?_
  have hpl : ps.length ≤ N.length := by
    have := congrArg List.length S.pre
    rw [List.length_take] at this
    omega
  refine ⟨_, PSs.nox (hb f cdv A outer s F0 H E ⟨rfl, rfl, hr.units, rfl⟩ hr), ?_⟩
  have rel : Rel (bd1 K w F0 H) F0 [] (pad N.length ds) (L2.start N vs) H := rel_start rfl rfl sm (RepL.cv bd_eqv.symm ds rl) (by rw [hl]; exact hpl)
  refine ⟨F0, [], _, rel, ?_⟩
  unfold runF at hg
  split at hg
  · cases hm : m (pad N.length ds) with
    | rt d =>
      rw [hm] at hg
      cases hg
      exact fun F' v H' s1 bs hv => q F' v H' bs.sameH s1 bs.new bs.sameF (Rep.cv bd_eqv _ hv)
    | nx S1 =>
      rw [hm] at hg
      cases hg
      exact fun F' σ' H' s1 r1 => q F' .non H' r1.base.sameH s1 r1.base.new r1.base.sameF Rep.non'
    | no =>
      rw [hm] at hg
      cases hg
    | bk S1 =>
      rw [hm] at hg
      cases hg
    | ct S1 =>
      rw [hm] at hg
      cases hg
    | ex =>
      rw [hm] at hg
      cases hg
  · cases hg
theorem has_fn (e : Hd K mg) (i : Nat) {N ps : List PySem.Str} {k : Nat} {d : He.DefD} {m : B} (hi : fn[i]? = some d) (S : FnScope N ps d.scope) (hd : d.dvs K = [])
    (hbi : ∀ {f fd}, FunD K d.name d.qual d.params d.body d.scope (d.dvs K) (d.kws K) f fd → Binds K fd ps []) (hb : Body P w K mg base N d k m) :
    Has P w K mg base d.at_ (k + 1) ps (spF (bd0 K w) ps.length (runF ps.length N.length m)) := by
  obtain ⟨fd, Fn⟩ := e.c.def_ i hi
  exact ⟨fd, fn_lift Fn S hb, hbi Fn, Fn.kp⟩
theorem Hd.clz (e : Hd K mg) (i0 i1 i2 i3 i4 : Nat) (h0 : fa[i0]? = some (.cls "Rules")) (h1 : fa[i1]? = some (.noat "Rules" "signs")) (h2 : fa[i2]? = some (.noat "Rules" "known")) (h3 : fa[i3]? = some (.noat "Rules" "least")) (h4 : fa[i4]? = some (.noat "Rules" "only")) {F H : Hp} : Clz (bd1 K w F H) := by
  refine ⟨He.cls_ok (e.c.fact i0 h0), fun f hf => ?_⟩
  have hf : f = "signs" ∨ f = "known" ∨ f = "least" ∨ f = "only" := by simpa [fields4] using hf
  rcases hf with rfl | rfl | rfl | rfl
  · exact He.noat_ok (e.c.fact i1 h1)
  · exact He.noat_ok (e.c.fact i2 h2)
  · exact He.noat_ok (e.c.fact i3 h3)
  · exact He.noat_ok (e.c.fact i4 h4)
theorem runF_len {k n : Nat} {m : B} {ds : List D} {d : D} (h : runF k n m ds = some d) : ds.length = k := by
  unfold runF at h
  split at h
  · rename_i q
    exact Nat.eq_of_beq_eq_true q
  · cases h
end
section
variable {X : Cx} {b : Bd} {W : Sg → Hp → Prop} {mg : PySem.Str → Option Value}
variable {e o f a c : Expr} {es rest : List Expr} {ma mb mc mo me mf mk mv : M} {l src : L} {pos pos' p p2 p3 apos cpos mpos tpos lpos : Pos} {x y : PySem.Str} {m n : B} {st : Stmt} {sts u : List Stmt}
/-- a def of the text is called -/
theorem nCall {k j : Nat} {ps : List PySem.Str} {g : List D → Option D} (h : Has X.prog X.w X.K X.mg X.base (x, none) k ps (spF (bd0 X.K X.w) ps.length g)) (hm : X.mg x = some (.ref (He.ga X.K x))) (q : b.Eqv (bd0 X.K X.w)) (hr : Room j X.A) (hk : k ≤ j) (ha : PA X (e :: es) (tA b l)) (hn : ∀ ds d, g ds = some d → ds.length = ps.length := by exact fun _ _ h => runF_len h) (hg : Gl X x := by exact rfl)
    (hdb : (x == ("__debug__" : PySem.Str)) = false := by exact rfl) (h1 : starEach (e :: es) X.env = (false, eval e X.env) :: starEach es X.env := by exact rfl) (h2 : (backTo pos (starEach es X.env)).any (·.1) = false := by exact rfl) : PE X (.Call (.Name x p) (e :: es) [] pos) (tE b (eCall g l)) := by
  obtain ⟨fd, Fo, hb, hkp⟩ := h
  exact r_call q Fo hn (hr.mono hk) hg hm hkp hb ha hdb h1 h2
theorem nMost {K : PySem.W.Frag} (e : Hd K mg) (i : Nat) (hi : fa[i]? = some (.int "MOST_SHORT" 7)) (hX : X.mg = mg) (hg : Gl X "MOST_SHORT" := by exact rfl) : PE X (.Name "MOST_SHORT" pos) (tE b (eC (.int 7))) := by
  obtain ⟨h, X0, G⟩ := e.h
  obtain ⟨t, ht⟩ := He.int_ok X0 G (e.c.fact i hi)
  exact r_const (v := .int 7) (fun F => Rep.int') (pe_glob (u := .int 7 t) hg (by rw [hX]; exact ht) ⟨t, rfl⟩ (by decide))
theorem nSteps {K : PySem.W.Frag} {w : World} (e : Hd K mg) (hX : X.mg = mg) (q : b.Eqv (bd0 K w)) (hg : Gl X "STEPS" := by exact rfl) : PE X (.Name "STEPS" pos) (tE b (eC dSTEPS)) := by
  obtain ⟨p, h1, h2⟩ := e.st
  exact r_const (v := .ref p) (fun F => Rep.cv q.symm _ (h2 w F)) (pe_glob (u := .ref p) hg (by rw [hX]; exact h1) rfl (by decide))
end
end Tee
set_option maxRecDepth 100000
set_option maxHeartbeats 4000000
/-! More rules in short: methods, instances, defs in slots. -/
namespace Tee
open PySem PySem.Spec PyProof.Rows L2
def Tb (P : Program) (w : World) (K : PySem.W.Frag) (mg : PySem.Str → Option Value) (base : Heap) (k : Nat) : Prop :=
  ∀ j, j < 2 → ∃ fd ps, ps.length = 5 ∧ FnOk P w K mg base CX0 k (He.ga K (fnName j)) fd ps (spF (bd0 K w) 5 (tbSt j)) ∧ PySem.W.keepIn K (.ref (He.ga K (fnName j))) = true ∧ Binds K fd ps []
theorem tb_two {j : Nat} {ds : List D} {d : D} (h : tbSt j ds = some d) : j < 2 ∧ ds.length = 5 := by
  unfold tbSt at h
  split at h
  · exact ⟨by decide, runF_len h⟩
  · exact ⟨by decide, runF_len h⟩
  · cases h
def HasI (P : Program) (w : World) (K : PySem.W.Frag) (mg : PySem.Str → Option Value) (base : Heap) (k : Nat) : Prop :=
  ∃ fd, FnOk P w K mg base CX0 k (He.ma K (He.ga K "Rules") "__init__") fd ["self", "signs", "known"] (spI (bd0 K w)) ∧ Binds K fd ["self", "signs", "known"] []
theorem hi_Rules_agrees (ds : List D) (d : D) (h : m_Rules_agrees ds = some d) : ∃ x r, ds = x :: r ∧ isIns x = true := by
  have hl : ds.length = 3 := runF_len h
  match ds, hl with
  | [x, y, z], _ =>
    refine ⟨x, [y, z], rfl, ?_⟩
    cases x <;> first | rfl | cases h
theorem hi_Rules_lets (ds : List D) (d : D) (h : m_Rules_lets ds = some d) : ∃ x r, ds = x :: r ∧ isIns x = true := by
  have hl : ds.length = 3 := runF_len h
  match ds, hl with
  | [x, y, z], _ =>
    refine ⟨x, [y, z], rfl, ?_⟩
    cases x <;> first | rfl | cases h
theorem hi_Rules_crossed (ds : List D) (d : D) (h : m_Rules_crossed ds = some d) : ∃ x r, ds = x :: r ∧ isIns x = true := by
  have hl : ds.length = 1 := runF_len h
  match ds, hl with
  | [x], _ =>
    refine ⟨x, [], rfl, ?_⟩
    cases x <;> first | rfl | cases h
section
variable {X : Cx} {b : Bd} {W : Sg → Hp → Prop} {mg : PySem.Str → Option Value}
variable {e o f a c : Expr} {es rest : List Expr} {ma mb mc mo me mf mk mv : M} {l src : L} {pos pos' p p2 p3 apos cpos mpos tpos lpos : Pos} {x y : PySem.Str} {m n : B} {st : Stmt} {sts u : List Stmt}
theorem nCallV (i : Nat) {k j : Nat} (TB : Tb X.prog X.w X.K X.mg X.base k) (hk : k ≤ j) (q : b.Eqv (bd0 X.K X.w)) (hr : Room j X.A) (ha : PA X (e :: es) (tA b l)) (hN : X.N[i]? = some x := by exact rfl) (hv : visB X.env.scope x = true := by exact rfl) (hdb : (x == ("__debug__" : PySem.Str)) = false := by exact rfl) (hcd : (x == ("__classdict__" : PySem.Str)) = false := by exact rfl)
    (h1 : starEach (e :: es) X.env = (false, eval e X.env) :: starEach es X.env := by exact rfl) (h2 : (backTo pos (starEach es X.env)).any (·.1) = false := by exact rfl) : PE X (.Call (.Name x p) (e :: es) [] pos) (tE b (eCallV tbSt i l)) :=
  r_callV q (fun j ds d h => tb_two h) (fun j hj => by rw [q.fa]; exact TB j hj) (hr.mono hk) hN (vis_of hv) ha hdb hcd h1 h2
theorem sEx' : PS X st (tS b (fun _ _ => False) sEx) := ps_never.weak fun D σ H ⟨F, G, S, rel, h⟩ => h F σ H (Same.refl F) rel.base
theorem gnC (i : Nat) {is : List Nat} (hN : X.N.Nodup) (h2 : PGs X es (gNames is)) (hi : X.N[i]? = some x := by exact rfl) (hx : locB X.env.scope x = true := by exact rfl) (hf : stB X X.env.scope x = true := by exact rfl) (hs : (assignEach (.Name x p :: es) X.env).map (·.2) = assign (.Name x p) X.env :: (assignEach es X.env).map (·.2) := by exact rfl) : PGs X (.Name x p :: es) (gNames (i :: is)) := gn_cons hN hi (loc_of hx) (st_of hf) h2 hs
theorem nMeth {pl : Sem Bool} {K : PySem.W.Frag} (hd : Hd K mg) (i : Nat) {mt : PySem.Str} (hi : fa[i]? = some (.meth "Rules" mt)) {k j : Nat} {ps : List PySem.Str} {g : List D → Option D} (h : Has X.prog X.w X.K X.mg X.base ("Rules", some mt) k ps (spF (bd0 X.K X.w) ps.length g)) (hK : X.K = K) (hm4 : mt ∉ fields4) (hins : ∀ ds d, g ds = some d → ∃ x r, ds = x :: r ∧ isIns x = true) (hn : ∀ ds d, g ds = some d → ds.length = ps.length)
    (q : b.Eqv (bd0 X.K X.w)) (hr : Room j X.A) (hk : k ≤ j) (ok : Okb b X) (cz : Clz b) (ho : PE X o (tE b mo)) (ha : PA X (e :: es) (tA b l)) (h1 : starEach (e :: es) X.env = (false, eval e X.env) :: starEach es X.env := by exact rfl) (h2 : (backTo pos (starEach es X.env)).any (·.1) = false := by exact rfl)
    (ht : eval (.Call (.Attribute o mt apos) (e :: es) [] pos) X.env = (do
      let ov ← eval o X.env
      standAt apos.atName
      let (f, first) ← holding [ov] (getMethod ov mt pl)
      callWith pos f first (backTo pos (starEach (e :: es) X.env)) (backToKw pos (keywordEach [] X.env))) := by exact rfl) : PE X (.Call (.Attribute o mt apos) (e :: es) [] pos) (tE b (eCall g (aC mo l))) := by
  subst hK
  obtain ⟨fd, Fo, hb, _⟩ := h
  have hm := He.meth_ok (hd.c.fact i hi)
  exact r_meth q ok cz hm4 Fo (fun ds d z => ⟨hn ds d z, hins ds d z⟩) (hr.mono hk) ho (by rw [q.CR]; exact hm) hb ha h1 h2 ht
theorem nMeth0 {pl : Sem Bool} {K : PySem.W.Frag} (hd : Hd K mg) (i : Nat) {mt : PySem.Str} (hi : fa[i]? = some (.meth "Rules" mt)) {k j : Nat} {ps : List PySem.Str} {g : List D → Option D} (h : Has X.prog X.w X.K X.mg X.base ("Rules", some mt) k ps (spF (bd0 X.K X.w) ps.length g)) (hK : X.K = K) (hm4 : mt ∉ fields4) (hins : ∀ ds d, g ds = some d → ∃ x r, ds = x :: r ∧ isIns x = true) (hn : ∀ ds d, g ds = some d → ds.length = ps.length)
    (q : b.Eqv (bd0 X.K X.w)) (hr : Room j X.A) (hk : k ≤ j) (ok : Okb b X) (cz : Clz b) (ho : PE X o (tE b mo))
    (ht : eval (.Call (.Attribute o mt apos) [] [] pos) X.env = (do
      let ov ← eval o X.env
      standAt apos.atName
      let (f, first) ← holding [ov] (getMethod ov mt pl)
      callWith pos f first (backTo pos (starEach [] X.env)) (backToKw pos (keywordEach [] X.env))) := by exact rfl) : PE X (.Call (.Attribute o mt apos) [] [] pos) (tE b (eCall g (aC mo aN))) := by
  subst hK
  obtain ⟨fd, Fo, hb, _⟩ := h
  have hm := He.meth_ok (hd.c.fact i hi)
  exact r_meth0 q ok cz hm4 Fo (fun ds d z => ⟨hn ds d z, hins ds d z⟩) (hr.mono hk) ho (by rw [q.CR]; exact hm) hb ht
theorem nRules {K : PySem.W.Frag} (hd : Hd K mg) {i1 i2 : Nat} (h1 : fa[i1]? = some (.mkr "Rules")) (h2 : fa[i2]? = some (.glo "Rules")) {k j : Nat} (hI : HasI X.prog X.w X.K X.mg X.base k) (hK : X.K = K) (hM : X.mg = mg) (q : b.Eqv (bd0 X.K X.w)) (hr : Room j X.A) (hk : k + 1 ≤ j) (ha : PE X a (tE b ma)) (he : PE X e (tE b mb)) (hg : Gl X "Rules" := by exact rfl)
    (hs : starEach [a, e] X.env = (false, eval a X.env) :: starEach [e] X.env := by exact rfl) (hs2 : starEach [e] X.env = (false, eval e X.env) :: starEach [] X.env := by exact rfl) (hpl : (backTo pos (starEach [e] X.env)).any (·.1) = false := by exact rfl) : PE X (.Call (.Name "Rules" p) [a, e] [] pos) (tE b (e2 oRules ma mb)) := by
  subst hK hM
  obtain ⟨fd, Fo, hb⟩ := hI
  exact r_rules q (He.mkr_ok (hd.c.fact i1 h1)) Fo (hr.mono hk) hg (hd.glo i2 h2) hb ha he (by decide) hs hs2 hpl
theorem sNewI' (i : Nat) {K : PySem.W.Frag} (hd : Hd K mg) {i1 i2 : Nat} (h1 : fa[i1]? = some (.mkr "Rules")) (h2 : fa[i2]? = some (.glo "Rules")) {py spos : Pos} {k j : Nat} (hI : HasI X.prog X.w X.K X.mg X.base k) (hK : X.K = K) (hM : X.mg = mg) (q : b.Eqv (bd0 X.K X.w)) (hr : Room j X.A) (hk : k + 1 ≤ j) (ha : PE X a (tE b ma)) (he : PE X e (tE b mb))
    (hN : X.N.Nodup) (hi : X.N[i]? = some y := by exact rfl) (hx : locB X.env.scope y = true := by exact rfl) (hf : stB X X.env.scope y = true := by exact rfl) (hg : Gl X "Rules" := by exact rfl)
    (hs : starEach [a, e] X.env = (false, eval a X.env) :: starEach [e] X.env := by exact rfl) (hs2 : starEach [e] X.env = (false, eval e X.env) :: starEach [] X.env := by exact rfl) (hpl : (backTo pos (starEach [e] X.env)).any (·.1) = false := by exact rfl)
    (hsw : swapsWith (.Call (.Name "Rules" p) [a, e] [] pos) (some (.Name y py)) spos.line X.env = pure false := by exact rfl) : PS X (.Assign [.Name y py] (.Call (.Name "Rules" p) [a, e] [] pos) spos) (tS b W (sNewI i ma mb)) := by
  subst hK hM
  obtain ⟨fd, Fo, hb⟩ := hI
  exact q_newI hN hi (loc_of hx) (st_of hf) q (He.mkr_ok (hd.c.fact i1 h1)) Fo (hr.mono hk) hg (hd.glo i2 h2) hb ha he (by decide) hs hs2 hpl hsw
end
end Tee
set_option maxRecDepth 100000
set_option maxHeartbeats 4000000
/-! Defs that raise CanNot. -/
namespace Tee
open PySem PySem.Spec PyProof.Rows L2
def spX (c : Bd) (cn : Addr) (n : Nat) (g : List D → Rx) : Sp := fun vs H Q E => vs.length = n ∧ ∃ F ds, Same F H ∧ RepL c F ds vs ∧ match g ds with
  | .no => False
  | .rt d => ∀ F' v H', Same H H' → Same F F' → (∀ a, F' a ≠ none → F a ≠ none ∨ H a = none) → Same F' H' → Rep c F' d v → Q v H'
  | .ex => ∀ F' H', Same H H' → Same F F' → (∀ a, F' a ≠ none → F a ≠ none ∨ H a = none) → Same F' H' → E (.ref cn) none H'
section
variable {P : Program} {w : World} {K : PySem.W.Frag} {mg : PySem.Str → Option Value} {base : Heap}
def HasX (P : Program) (w : World) (K : PySem.W.Frag) (mg : PySem.Str → Option Value) (base : Heap) (p : PySem.Str × Option PySem.Str) (k : Nat) (ps : List PySem.Str) (sp : Sp) : Prop :=
  ∃ fd, FnOk P w K mg base (L2.CX P w) k (He.fAd K p) fd ps sp ∧ Binds K fd ps [] ∧ PySem.W.keepIn K (.ref (He.fAd K p)) = true
def BodyX (P : Program) (w : World) (K : PySem.W.Frag) (mg : PySem.Str → Option Value) (base : Heap) (N : List PySem.Str) (d : He.DefD) (k : Nat) (m : B) : Prop :=
  ∀ (f : Addr) (cdv : Value) (A : Around) (outer : List Env) (s : Shared) (F H : Hp) (E : XK), Okb (bd1 K w F H) (cxOf (L2.CX P w) P w K mg base N d.qual d.scope f cdv A outer s H E) → Room k (cxOf (L2.CX P w) P w K mg base N d.qual d.scope f cdv A outer s H E).A →
    Takes (cxOf (L2.CX P w) P w K mg base N d.qual d.scope f cdv A outer s H E) (fun cls d _ H => E cls d H) →
    PSs (cxOf (L2.CX P w) P w K mg base N d.qual d.scope f cdv A outer s H E) d.body (tS (bd1 K w F H) (fun _ H' => E (.ref (cnA K)) none H') m)
theorem fnx_lift {N ps : List PySem.Str} {k : Nat} {d : He.DefD} {f : Addr} {fd : FuncData} {m : B} (Fn : FunD K d.name d.qual d.params d.body d.scope (d.dvs K) (d.kws K) f fd) (S : FnScope N ps d.scope) (hb : BodyX P w K mg base N d k m) :
    FnOk P w K mg base (L2.CX P w) (k + 1) f fd ps (spX (bd0 K w) (cnA K) ps.length (runX ps.length N.length m)) := by
  refine Fn.ok S (fun vs H Q E h => h.1) fun cdv A outer s H vs Q E hr ⟨hl, F0, ds, sm, rl, q⟩ => ?_
  have hpl : ps.length ≤ N.length := by
    have := congrArg List.length S.pre
    rw [List.length_take] at this
    omega
  refine ⟨_, hb f cdv A outer s F0 H E ⟨rfl, rfl, hr.units, rfl⟩ hr (takes_of rfl rfl rfl rfl), ?_⟩
  have rel : Rel (bd1 K w F0 H) F0 [] (pad N.length ds) (L2.start N vs) H := rel_start rfl rfl sm (RepL.cv bd_eqv.symm ds rl) (by rw [hl]; exact hpl)
  refine ⟨F0, [], _, rel, ?_⟩
  have hb : Nat.beq ds.length ps.length = true := by rw [rl.len, hl]; exact Nat.beq_refl _
  cases hm : m (pad N.length ds) with
  | rt d =>
    have hx : runX ps.length N.length m ds = .rt d := by
      unfold runX
      rw [hb, hm]
    rw [hx] at q
    exact fun F' v H' s1 bs hv => q F' v H' bs.sameH s1 bs.new bs.sameF (Rep.cv bd_eqv _ hv)
  | nx S1 =>
    have hx : runX ps.length N.length m ds = .rt .non := by
      unfold runX
      rw [hb, hm]
    rw [hx] at q
    exact fun F' σ' H' s1 r1 => q F' .non H' r1.base.sameH s1 r1.base.new r1.base.sameF Rep.non'
  | no =>
    have hx : runX ps.length N.length m ds = .no := by
      unfold runX
      rw [hb, hm]
    rw [hx] at q
    exact q.elim
  | bk S1 =>
    have hx : runX ps.length N.length m ds = .no := by
      unfold runX
      rw [hb, hm]
    rw [hx] at q
    exact q.elim
  | ct S1 =>
    have hx : runX ps.length N.length m ds = .no := by
      unfold runX
      rw [hb, hm]
    rw [hx] at q
    exact q.elim
  | ex =>
    have hx : runX ps.length N.length m ds = .ex := by
      unfold runX
      rw [hb, hm]
    rw [hx] at q
    exact fun F' σ' H' s1 bs => q F' H' bs.sameH s1 bs.new bs.sameF
theorem hasx_fn (e : Hd K mg) (i : Nat) {N ps : List PySem.Str} {k : Nat} {d : He.DefD} {m : B} (hi : fn[i]? = some d) (S : FnScope N ps d.scope) (hd : d.dvs K = [])
    (hbi : ∀ {f fd}, FunD K d.name d.qual d.params d.body d.scope (d.dvs K) (d.kws K) f fd → Binds K fd ps []) (hb : BodyX P w K mg base N d k m) :
    HasX P w K mg base d.at_ (k + 1) ps (spX (bd0 K w) (cnA K) ps.length (runX ps.length N.length m)) := by
  obtain ⟨fd, Fn⟩ := e.c.def_ i hi
  exact ⟨fd, fnx_lift Fn S hb, hbi Fn, Fn.kp⟩
theorem Has.imp {p : PySem.Str × Option PySem.Str} {k n : Nat} {ps : List PySem.Str} {c : Bd} {g g' : List D → Option D} (h : Has P w K mg base p k ps (spF c n g)) (q : ∀ ds d, g' ds = some d → g ds = some d) : Has P w K mg base p k ps (spF c n g') := by
  obtain ⟨fd, Fo, hb, hk⟩ := h
  exact ⟨fd, Fo.imp fun vs H Q E ⟨hl, F, ds, d, hg, r⟩ => ⟨hl, F, ds, d, q _ _ hg, r⟩, hb, hk⟩
theorem Has.mono {p : PySem.Str × Option PySem.Str} {j k : Nat} {ps : List PySem.Str} {sp : Sp} (h : Has P w K mg base p j ps sp) (q : j ≤ k) : Has P w K mg base p k ps sp := by
  obtain ⟨fd, Fo, hb, hk⟩ := h
  exact ⟨fd, Fo.mono q, hb, hk⟩
end
theorem runX_len {k n : Nat} {m : B} {ds : List D} (h : runX k n m ds ≠ .no) : ds.length = k := by
  unfold runX at h
  split at h
  · rename_i q
    exact Nat.eq_of_beq_eq_true q
  · exact absurd rfl h
section
variable {X : Cx} {b : Bd} {W : Sg → Hp → Prop} {mg : PySem.Str → Option Value}
variable {e fe : Expr} {es : List Expr} {l : L} {m : M} {pos pos1 pos2 p p1 p2 p3 : Pos} {x x1 x2 : PySem.Str}
/-- X(), X an own exception class without own __init__ -/
theorem pmk_own0 {C : Addr} {bmB : List Value} {Bn newId initId : String} (F : ExcBaseFacts Bn newId initId bmB) (q : PySem.W.excIn X.K C bmB newId = true) (gC : X.mg x = some (.ref C)) (kC : PySem.W.keepIn X.K (.ref C) = true) (r : Raises X (.ref C)) (hg : Gl X x)
    (hdb : (x == ("__debug__" : PySem.Str)) = false := by decide) : PMk X (.Call (.Name x p) [] [] pos) (fun _ H Q => Q (.ref C) none H) := by
  intro pins s σ H Q I h
  refine wpAny_Call_Name_kw (ld_glob I hg gC ?_ hdb)
  refine PySem.W.callWith_K0 I.kIn kC ?_
  obtain ⟨bm, N, nm, qn, bs, hdct, sn, sub, ab, col, dd, k0, k1, k2, k3, k5, mN, hC, hN, hni, T⟩ := exc_obj I.kIn q
  refine wpAny_call_exc_subT F T hC hN hni (fun h' e hm => ?_) (Nat.zero_le _)
  exact mk_of I hm r h (I.hok.gone hm.new)
theorem sExR {K : PySem.W.Frag} (hd : Hd K mg) (i j : Nat) (hi : fa[i]? = some (.exc "CanNot")) (hj : fa[j]? = some (.glo "CanNot")) (hK : X.K = K) (hM : X.mg = mg) (hc : X.calm = true) {E : XK} (tk : Takes X (fun cls d _ H => E cls d H)) (hg : Gl X "CanNot" := by exact rfl) :
    PS X (.Raise (some (.Call (.Name "CanNot" p1) [] [] p2)) none p3) (tS b (fun _ H' => E (.ref (cnA K)) none H') sEx) := by
  subst hK hM
  obtain ⟨e1, e2, e3, e4⟩ := He.exc_ok (hd.c.fact i hi)
  exact (ps_raise hc tk (pmk_own0 PySem.F.excBase_ValueError e1 (hd.glo j hj) e2 (raises_own e3 e4) hg)).weak fun D σ H ⟨F, G, S, rel, h⟩ => h F σ H (Same.refl F) rel.base
/-- return f(g(..)), g may raise -/
theorem q_retX {f : List D → Option D} {g : List D → Rx} {j k1 k2 n : Nat} {ps1 ps2 : List PySem.Str} {cn : Addr} {E : XK} (h1 : Has X.prog X.w X.K X.mg X.base (x1, none) k1 ps1 (spF (bd0 X.K X.w) 1 f)) (h2 : HasX X.prog X.w X.K X.mg X.base (x2, none) k2 ps2 (spX (bd0 X.K X.w) cn n g))
    (m1 : X.mg x1 = some (.ref (He.ga X.K x1))) (m2 : X.mg x2 = some (.ref (He.ga X.K x2))) (q : b.Eqv (bd0 X.K X.w)) (hr : Room j X.A) (hk1 : k1 ≤ j) (hk2 : k2 ≤ j) (hn2 : ∀ ds, g ds ≠ .no → ds.length = n) (tk : Takes X (fun cls d _ H => E cls d H)) (ha : PA X (e :: es) (tA b l))
    (hg1 : Gl X x1 := by exact rfl) (hg2 : Gl X x2 := by exact rfl) (hdb1 : (x1 == ("__debug__" : PySem.Str)) = false := by exact rfl) (hdb2 : (x2 == ("__debug__" : PySem.Str)) = false := by exact rfl)
    (s1 : starEach (e :: es) X.env = (false, eval e X.env) :: starEach es X.env := by exact rfl) (s2 : (backTo pos2 (starEach es X.env)).any (·.1) = false := by exact rfl)
    (s3 : starEach [.Call (.Name x2 p2) (e :: es) [] pos2] X.env = (false, eval (.Call (.Name x2 p2) (e :: es) [] pos2) X.env) :: starEach [] X.env := by exact rfl) (s4 : (backTo pos1 (starEach [] X.env)).any (·.1) = false := by exact rfl) :
    PS X (.Return (some (.Call (.Name x1 p1) [.Call (.Name x2 p2) (e :: es) [] pos2] [] pos1)) pos) (tS b (fun _ H' => E (.ref cn) none H') (sRetX f g l)) := by
  obtain ⟨fd1, F1, b1, kk1⟩ := h1
  obtain ⟨fd2, F2, b2, kk2⟩ := h2
  refine (ps_ret (pe_call (E := E0) F1 (hr.mono hk1) hg1 m1 kk1 b1 .nil pass0 (pa_cons (pe_call (E := E) F2 (hr.mono hk2) hg2 m2 kk2 b2 .nil (passes_call tk fun _ _ _ _ h => h) ha hdb2 s1 s2) pa_nil s3) hdb1 s3 s4)).weak fun D σ H ⟨F, G, S, rel, h⟩ => ?_
  unfold sRetX at h
  split at h
  · rename_i ds S1 hl
    refine ⟨F, G, S, ds, S1, hl, rel, fun F1 vs H1 s1 r1 h1 => ?_⟩
    show spX (bd0 X.K X.w) cn n g (vs ++ []) H1 (fun v H2 => spF (bd0 X.K X.w) 1 f ([v] ++ []) H2 D.rt E0) E
    rw [List.append_nil]
    cases hg : g ds with
    | no =>
      rw [hg] at h
      exact h.elim
    | rt d =>
      rw [hg] at h
      dsimp only at h
      cases hf : f [d] with
      | none =>
        rw [hf] at h
        exact h.elim
      | some z =>
        rw [hf] at h
        refine ⟨by rw [← h1.len]; exact hn2 ds (by rw [hg]; intro z; cases z), F1, ds, r1.base.sameF, RepL.cv q ds h1, ?_⟩
        rw [hg]
        intro F2 v H2 sH sF nw sFH hv
        refine ⟨rfl, F2, [d], z, hf, sFH, .cons' hv .nil', fun F3 v3 H3 sH3 sF3 nw3 sFH3 hv3 => ?_⟩
        have r2 := r1.grow sF sH sFH nw
        have r3 := r2.grow sF3 sH3 sFH3 nw3
        exact h F3 v3 H3 ((s1.trans sF).trans sF3) r3.base (Rep.cv q.symm _ hv3)
    | ex =>
      rw [hg] at h
      refine ⟨by rw [← h1.len]; exact hn2 ds (by rw [hg]; intro z; cases z), F1, ds, r1.base.sameF, RepL.cv q ds h1, ?_⟩
      rw [hg]
      intro F2 H2 sH sF nw sFH
      exact h F2 σ H2 (s1.trans sF) (r1.grow sF sH sFH nw).base
  · exact h.elim
/-- a def, found by its place, keeps a promise -/
def HeldX (P : Program) (w : World) (K : PySem.W.Frag) (mg : PySem.Str → Option Value) (base : Heap) (CX : CXT) (k : Nat) (f : Addr) (sp : Sp) : Prop := ∃ fd ps, FnOk P w K mg base CX k f fd ps sp ∧ PySem.W.keepIn K (.ref f) = true ∧ Binds K fd ps []
/-- e(..), e a value that is a def -/
theorem pe_callE {tf : TE} {t : TA} {CX : CXT} {k : Nat} {R : Addr → Sp → Prop} {E : L2.St → XK} (hf : PE X fe tf) (A : ∀ f sp, R f sp → HeldX X.prog X.w X.K X.mg X.base CX k f sp) (hr : Room k X.A) (hx : ∀ σ, PassesAt CX X σ (E σ)) (ha : PA X (e :: es) t)
    (ht : eval (.Call fe (e :: es) [] pos) X.env = (do callWith pos (← eval fe X.env) [] (backTo pos (starEach (e :: es) X.env)) (backToKw pos (keywordEach [] X.env))))
    (he : starEach (e :: es) X.env = (false, eval e X.env) :: starEach es X.env) (hpl : (backTo pos (starEach es X.env)).any (·.1) = false) :
    PE X (.Call fe (e :: es) [] pos) (fun σ H Q => tf σ H fun y H1 => ∃ f sp, y = V.ref f ∧ R f sp ∧ t σ H1 fun vs H2 => sp vs H2 Q (E σ)) := by
  refine ⟨fun pins s σ H Q I h => ?_⟩
  refine Call_ (thn (hf.run pins s σ H _ I h) fun u s1 ⟨y, H1, I1, ry, f, sp, ey, hS, q⟩ => ?_) ht
  subst ey
  obtain rfl : u = Value.ref f := ry
  obtain ⟨fd, ps, F, hk, hb⟩ := A f sp hS
  refine PySem.W.callWith_K (h₀ := X.base) I1.ok.mod.kin hk (thn (ha.run pos pins s1 σ H1 _ I1 q) fun us s2 ⟨vs, H2, I2, r, q2⟩ => ⟨I2.kIn, ?_⟩) he hpl
  exact run_fnS F hr hb (hx σ) I2 r q2
/-- return e(..), e one of some defs that may raise -/
theorem q_retC {CX : CXT} {k n nl : Nat} {cn : Addr} {g : Nat → List D → Rx} {E : L2.St → XK} (hf : PE X fe (tE b m)) (A : ∀ j ds, g j ds ≠ .no → HeldX X.prog X.w X.K X.mg X.base CX k (b.fa j) (spX (bd0 X.K X.w) cn n (g j)) ∧ ds.length = n) (hr : Room k X.A) (hx : ∀ σ, PassesAt CX X σ (E σ)) (q : b.Eqv (bd0 X.K X.w)) (ha : PA X (e :: es) (tA b l))
    (ht : eval (.Call fe (e :: es) [] pos1) X.env = (do callWith pos1 (← eval fe X.env) [] (backTo pos1 (starEach (e :: es) X.env)) (backToKw pos1 (keywordEach [] X.env))) := by exact rfl)
    (he : starEach (e :: es) X.env = (false, eval e X.env) :: starEach es X.env := by exact rfl) (hpl : (backTo pos1 (starEach es X.env)).any (·.1) = false := by exact rfl) :
    PS X (.Return (some (.Call fe (e :: es) [] pos1)) pos) (tS b (fun σ' H' => σ'.length = nl → E σ' (.ref cn) none H') (sRetC nl g m l)) := by
  refine (ps_ret (pe_callE (R := fun f sp => ∃ j, f = b.fa j ∧ sp = spX (bd0 X.K X.w) cn n (g j) ∧ HeldX X.prog X.w X.K X.mg X.base CX k f sp) hf (fun f sp ⟨j, e1, e2, h⟩ => h) hr hx ha ht he hpl)).weak fun D σ H ⟨F, G, S, rel, h⟩ => ?_
  unfold sRetC at h
  split at h
  · rename_i hlen
    have hlen := Nat.eq_of_beq_eq_true hlen
    split at h
    · rename_i j S1 hm
      split at h
      · rename_i ds S2 hl
        refine ⟨F, G, S, _, S1, hm, rel, fun F1 v H1 s1 r1 h1 => ?_⟩
        rw [Rep] at h1
        subst h1
        have hA : g j ds ≠ .no := fun z => by
          rw [z] at h
          exact h
        obtain ⟨hA1, hA2⟩ := A j ds hA
        refine ⟨b.fa j, _, rfl, ⟨j, rfl, rfl, hA1⟩, F1, G, S1, ds, S2, hl, r1, fun F2 vs H2 s2 r2 h2 => ⟨by rw [← h2.len]; exact hA2, F2, ds, r2.base.sameF, RepL.cv q ds h2, ?_⟩⟩
        cases hg : g j ds with
        | no => exact hA hg
        | rt d =>
          rw [hg] at h
          intro F3 v H3 sH sF nw sFH hv
          exact h F3 v H3 ((s1.trans s2).trans sF) (r2.grow sF sH sFH nw).base (Rep.cv q.symm _ hv)
        | ex =>
          rw [hg] at h
          intro F3 H3 sH sF nw sFH
          exact h F3 σ H3 ((s1.trans s2).trans sF) (r2.grow sF sH sFH nw).base (by rw [← rel.len]; exact hlen)
      · exact h.elim
    · exact h.elim
  · exact h.elim
end
end Tee
set_option maxRecDepth 100000
set_option maxHeartbeats 4000000
/-! Draws. -/
namespace Tee
open PySem PySem.Spec PyProof.Rows L2
def spTake : Sp := fun vs H Q _ => ∃ (t : Addr) (a bb c n : Int), vs = [.ref t, .int n] ∧ H t = some (.lst [.int a, .int bb, .int c]) ∧ (0 ≤ a ∧ 0 ≤ bb ∧ bb < 4611686018427387904 ∧ 0 ≤ c ∧ c < 1000) ∧ (0 < n ∧ n < 1000) ∧ Q (.int (drR a bb c n)) (upd H t (.lst [.int (drA a n), .int bb, .int (drC a c)]))
def spOf : Sp := fun vs H Q _ => ∃ (t g : Addr) (a bb c : Int) (xs : List V) (x : V), vs = [.ref t, .ref g] ∧ g ≠ t ∧ H t = some (.lst [.int a, .int bb, .int c]) ∧ H g = some (.lst xs) ∧ (0 ≤ a ∧ 0 ≤ bb ∧ bb < 4611686018427387904 ∧ 0 ≤ c ∧ c < 1000) ∧ (0 < (xs.length : Int) ∧ (xs.length : Int) < 1000) ∧
  (∃ k : Nat, drR a bb c xs.length = .ofNat k ∧ xs[k]? = some x) ∧ Q x (upd H t (.lst [.int (drA a xs.length), .int bb, .int (drC a c)]))
/-- what a draw says -/
theorem takeG_of {i : Nat} {n : Int} {s s' : Ss} {d : D} (h : takeG i n s = .go d s') : ∃ a b c, gets s i = .lv [.int a, .int b, .int c] ∧ (0 < n ∧ n < 1000) ∧ (0 ≤ a ∧ 0 ≤ b ∧ b < 4611686018427387904 ∧ 0 ≤ c ∧ c < 1000) ∧ d = .int (drR a b c n) ∧ s' = sets s i (.lv [.int (drA a n), .int b, .int (drC a c)]) := by
  unfold takeG at h
  split at h
  · rename_i a b c hg
    split at h
    · rename_i hn
      split at h
      · rename_i hb
        rw [Bool.and_eq_true, ilt_iff, ilt_iff, decide_eq_true_eq, decide_eq_true_eq] at hn
        simp only [Bool.and_eq_true, ilt_iff, decide_eq_true_eq] at hb
        cases h
        exact ⟨a, b, c, hg, hn, ⟨by omega, by omega, hb.2.1, by omega, hb.2.2.2⟩, rfl, rfl⟩
      · cases h
    · cases h
  · cases h
theorem rep_ints {b : Bd} {F : Hp} {a bb c : Int} {vs : List V} (h : RepL b F [.int a, .int bb, .int c] vs) : vs = [.int a, .int bb, .int c] := by
  obtain ⟨v1, r1, rfl, h1, h⟩ := h.uncons
  obtain ⟨v2, r2, rfl, h2, h⟩ := h.uncons
  obtain ⟨v3, r3, rfl, h3, h⟩ := h.uncons
  rw [h.unnil, int_of h1, int_of h2, int_of h3]
theorem ints_rep {b : Bd} {F : Hp} {a bb c : Int} : RepL b F [.int a, .int bb, .int c] [.int a, .int bb, .int c] := .cons' Rep.int' (.cons' Rep.int' (.cons' Rep.int' .nil'))
section
variable {X : Cx} {b : Bd} {mg : PySem.Str → Option Value}
variable {e : Expr} {es : List Expr} {l : L} {me ma : M} {pos p p1 lp : Pos} {x : PySem.Str} {a : Expr}
theorem v_list (ok : Okb b X) : Val1 b oList fun v H Q => ∃ p ys, [v] = [.ref p] ∧ (SqL X.K H p ys ∨ SqT X.K H p ys) ∧ ∀ l, H l = none → Q (.ref l) (upd H l (.lst ys)) := fun F G S σ H d v z Q h r hv k => by
  cases d <;> first | (cases h; done) | skip
  · cases h
    obtain ⟨p, vs, rfl, q1, q2⟩ := tup_of hv
    exact ⟨p, vs, rfl, .inr (ok.K ▸ sqT_up r.base.sameF q1), fun p2 hp => k.lst r hp q2⟩
  · cases h
    obtain ⟨p, vs, rfl, q1, q2⟩ := lst_of hv
    exact ⟨p, vs, rfl, .inl (SqL.of (r.base.sameF _ _ q1)), fun p2 hp => k.lst r hp q2⟩
theorem nList (ok : Okb b X) (hm : X.mg "list" = none) (ha : PE X a (tE b ma)) (hg : Gl X "list" := by exact rfl) (hs : starEach [a] X.env = (false, eval a X.env) :: starEach [] X.env := by exact rfl) (hpl : (backTo pos (starEach [] X.env)).any (·.1) = false := by exact rfl) :
    PE X (.Call (.Name "list" p) [a] [] pos) (tE b (e1 oList ma)) := r_call1 (pe_callTy (call_list_of) hg hm (by decide +kernel) (pa_cons ha pa_nil hs) (by decide) (by decide) hs hpl) (v_list ok)
theorem nTake (i : Nat) {k j : Nat} {ps : List PySem.Str} (h : Has X.prog X.w X.K X.mg X.base ("_law_take", none) k ps spTake) (hm : X.mg "_law_take" = some (.ref (He.ga X.K "_law_take"))) (hr : Room j X.A) (hk : k ≤ j) (hv : PE X (.Name x p1) (tVar i)) (he : PE X e (tE b me)) (hg : Gl X "_law_take" := by exact rfl)
    (s1 : starEach [.Name x p1, e] X.env = (false, eval (.Name x p1) X.env) :: starEach [e] X.env := by exact rfl) (s2 : starEach [e] X.env = (false, eval e X.env) :: starEach [] X.env := by exact rfl) (hpl : (backTo pos (starEach [e] X.env)).any (·.1) = false := by exact rfl) :
    PE X (.Call (.Name "_law_take" p) [.Name x p1, e] [] pos) (tE b (eTake i me)) := by
  obtain ⟨fd, Fo, hb, hkp⟩ := h
  refine (pe_call (E := E0) Fo (hr.mono hk) hg hm hkp hb .nil pass0 (pa_cons hv (pa_cons he pa_nil s2) s1) (by decide) s1 hpl).weak fun σ H Q ⟨F, G, S, d, S', ee, rel, k⟩ => ?_
  unfold eTake pkE at ee
  split at ee
  · rename_i hlive
    dsimp only at ee
    split at ee
    · rename_i n S1 hm1
      obtain ⟨ad, o, e1, e2, e3, e4⟩ := (rel.slots i).live hlive
      obtain ⟨a, bb, c, g1, hn, hb1, rfl, rfl⟩ := takeG_of ee
      refine ⟨.ref ad, e1, F, G, S, _, S1, hm1, rel, fun F1 u H1 s1 r1 h1 => ?_⟩
      rw [int_of h1]
      have q := r1.slots i
      rw [g1] at q
      obtain ⟨a2, vs, z1, z2, z3, z4, z5⟩ := q
      obtain rfl : ad = a2 := by
        have := e1.symm.trans z1
        cases this
        rfl
      rw [rep_ints z5] at z2
      exact ⟨ad, a, bb, c, n, rfl, z2, hb1, hn, k F1 _ _ s1 (r1.lput g1 z1 ints_rep z2 z3 z4) Rep.int'⟩
    · cases ee
  · cases ee
theorem nOf (i : Nat) {k j : Nat} {ps : List PySem.Str} (h : Has X.prog X.w X.K X.mg X.base ("_law_of", none) k ps spOf) (hm : X.mg "_law_of" = some (.ref (He.ga X.K "_law_of"))) (hr : Room j X.A) (hk : k ≤ j) (hv : PE X (.Name x p1) (tVar i)) (ha : PA X es (tA b l)) (hg : Gl X "_law_of" := by exact rfl)
    (s1 : starEach [.Name x p1, .List es lp] X.env = (false, eval (.Name x p1) X.env) :: starEach [.List es lp] X.env := by exact rfl) (s2 : starEach [.List es lp] X.env = (false, eval (.List es lp) X.env) :: starEach [] X.env := by exact rfl) (hpl : (backTo pos (starEach [.List es lp] X.env)).any (·.1) = false := by exact rfl) :
    PE X (.Call (.Name "_law_of" p) [.Name x p1, .List es lp] [] pos) (tE b (eOf i l)) := by
  obtain ⟨fd, Fo, hb, hkp⟩ := h
  refine (pe_call (E := E0) Fo (hr.mono hk) hg hm hkp hb .nil pass0 (pa_cons hv (pa_cons (pe_lst ha) pa_nil s2) s1) (by decide) s1 hpl).weak fun σ H Q ⟨F, G, S, d, S', ee, rel, k⟩ => ?_
  unfold eOf pkE at ee
  split at ee
  · rename_i hlive
    dsimp only at ee
    split at ee
    · rename_i ds S1 hm1
      split at ee
      · rename_i kk S2 htk
        split at ee
        · rename_i dd hdd
          cases ee
          obtain ⟨ad, o, e1, e2, e3, e4⟩ := (rel.slots i).live hlive
          obtain ⟨a, bb, c, g1, hn, hb1, hrr, rfl⟩ := takeG_of htk
          refine ⟨.ref ad, e1, F, G, S, _, S1, hm1, rel, fun F1 vs H1 s1 r1 h1 => ?_⟩
          have hlen := h1.len
          refine ⟨line_le (by omega), fun g hg2 => ?_⟩
          have q := r1.slots i
          rw [g1] at q
          obtain ⟨a2, us, z1, z2, z3, z4, z5⟩ := q
          obtain rfl : ad = a2 := by
            have := e1.symm.trans z1
            cases this
            rfl
          rw [rep_ints z5] at z2
          have ne : g ≠ ad := fun z => by
            rw [z, z2] at hg2
            cases hg2
          have r2 : Rel b F1 G S1 σ (upd H1 g (.lst vs)) := r1.grow (fun _ _ e => e) (same_upd' hg2) (r1.base.sameF.trans (same_upd' hg2)) fun _ q => .inl q
          have z2' : upd H1 g (.lst vs) ad = some (.lst [.int a, .int bb, .int c]) := by
            rw [upd_ne (Ne.symm ne)]
            exact z2
          obtain ⟨v, hv1, hv2⟩ := h1.get hdd
          rw [hlen] at hn hrr
          refine ⟨ad, g, a, bb, c, vs, v, rfl, ne, z2', upd_same, hb1, hn, ⟨kk, ?_, hv1⟩, ?_⟩
          · exact (D.int.inj hrr).symm
          · have r3 := r2.lput g1 z1 (l' := [.int (drA a vs.length), .int bb, .int (drC a c)]) ints_rep z2' z3 z4
            rw [← hlen] at r3 ⊢
            exact k F1 v _ s1 r3 hv2
        · cases ee
      · cases ee
    · cases ee
  · cases ee
end
end Tee
set_option maxRecDepth 100000
set_option maxHeartbeats 4000000
/-! Calls with keywords alone. -/
namespace Tee
open PySem PySem.Spec PyProof.Rows L2
section
variable {P : Program} {w : World} {K : PySem.W.Frag} {mg : PySem.Str → Option Value} {base : Heap}
/-- a body's derivation, some of the heap hidden -/
def BodyH (P : Program) (w : World) (K : PySem.W.Frag) (mg : PySem.Str → Option Value) (base : Heap) (N : List PySem.Str) (d : He.DefD) (k : Nat) (m : B) : Prop :=
  ∀ (f : Addr) (cdv : Value) (A : Around) (outer : List Env) (s : Shared) (F H0 H : Hp) (E : XK), Okb (bd1 K w F H0) (cxOf CX0 P w K mg base N d.qual d.scope f cdv A outer s H E).nox → Room k (cxOf CX0 P w K mg base N d.qual d.scope f cdv A outer s H E).nox.A →
    PSs (cxOf CX0 P w K mg base N d.qual d.scope f cdv A outer s H E).nox d.body (tS (bd1 K w F H0) (fun _ _ => False) m)
/-- a def, called by keywords, keeps a promise -/
def HasK (P : Program) (w : World) (K : PySem.W.Frag) (mg : PySem.Str → Option Value) (base : Heap) (p : PySem.Str) (k : Nat) (ks : List PySem.Str) (sp : Sp) : Prop :=
  ∃ fd ps gv gV sp0, FnOk P w K mg base CX0 k (He.fAd K (p, none)) fd ps sp0 ∧ KBn K fd ps 0 ks gv gV ∧ PySem.W.keepIn K (.ref (He.fAd K (p, none))) = true ∧ ∀ zs H Q E, sp zs H Q E → zs.length = ks.length ∧ sp0 (gV [] zs) H Q E
theorem kbn_of {x qual : PySem.Str} {params : Arguments} {body : List Stmt} {scope : Scope} {kws : List (PySem.Str × V)} {f : Addr} {fd : FuncData} {ps : List PySem.Str} (F : FunD K x qual params body scope [] kws f fd) (n : Nat) (ks : List PySem.Str) (g : {α : Type} → List α → List α → List α)
    (hrel : ∀ {vs : List V} {us : List Value} {zs : List V} {ws : List Value}, Vals vs us → Vals zs ws → Vals (g vs zs) (g us ws))
    (h : ∀ (kV doc pm : Value) (an : Option Addr) (cdv ct : Value) (us ws : List Value), us.length = n → ws.length = ks.length → bindArgs (PySem.W.fnOf x qual params body scope .none kV doc pm an cdv ct) ⟨us, ks.zip ws⟩ = pure (ps.zip (g us ws))) : KBn K fd ps n ks (fun us ws => g us ws) (fun vs zs => g vs zs) := by
  obtain ⟨oc, od, dV, kV, doc, pm, an, cdv, ct, osl, rfl, lk, hcd, hD, hK⟩ := F.ex
  rcases hD with ⟨_, rfl⟩ | ⟨e, _⟩
  · exact ⟨fun s us ws X l1 l2 => .of_eq (h kV doc pm an cdv ct us ws l1 l2), hrel⟩
  · exact absurd rfl e
end
section
variable {X : Cx} {b : Bd}
variable {e : Expr} {kws : List Keyword} {l : L} {me : M} {pos p kpos : Pos} {x : PySem.Str} {nm : Option PySem.Str}
theorem k_nil : PK X [] (tA b aN) := ⟨fun pos pins s σ H Q I ⟨F, G, S, d, S', e, rel, k⟩ => by
  cases e
  exact pk_nil.run pos pins s σ H Q I (k F [] H (Same.refl F) rel RepL.nil')⟩
theorem k_cons (ha : PE X e (tE b me)) (hr : PK X kws (tA b l)) : PK X (⟨nm, e, kpos⟩ :: kws) (tA b (aC me l)) := ⟨fun pos pins s σ H Q I ⟨F, G, S, d, S', ee, rel, k⟩ => by
  refine (pk_cons ha hr).run pos pins s σ H Q I ?_
  unfold aC at ee
  cases hm : me S with
  | no =>
    rw [hm] at ee
    cases ee
  | go y S1 =>
    rw [hm] at ee
    dsimp only at ee
    cases hl : l S1 with
    | no =>
      rw [hl] at ee
      cases ee
    | go ys S2 =>
      rw [hl] at ee
      cases ee
      exact ⟨F, G, S, y, S1, hm, rel, fun F1 v H1 s1 r1 h1 => ⟨F1, G, S1, ys, _, hl, r1, fun F2 vs H2 s2 r2 h2 => k F2 (v :: vs) H2 (s1.trans s2) r2 (.cons' (Rep.mono s2 _ h1) h2)⟩⟩⟩
/-- f(k = v, ..) -/
theorem nCallKw {k j n : Nat} {ks : List PySem.Str} {g : List D → Option D} (h : HasK X.prog X.w X.K X.mg X.base x k ks (spF (bd0 X.K X.w) n g)) (hm : X.mg x = some (.ref (He.ga X.K x))) (q : b.Eqv (bd0 X.K X.w)) (hr : Room j X.A) (hk : k ≤ j) (ha : PK X kws (tA b l)) (hn : ∀ ds d, g ds = some d → ds.length = n) (hg : Gl X x := by exact rfl)
    (hdb : (x == ("__debug__" : PySem.Str)) = false := by exact rfl) (hall : (backToKw pos (keywordEach kws X.env)).all (·.1.isSome) = true := by exact rfl) (hks : (backToKw pos (keywordEach kws X.env)).filterMap (·.1) = ks := by exact rfl)
    (hpl : ((backTo pos (starEach [] X.env)).any (·.1) || (backToKw pos (keywordEach kws X.env)).any (·.1.isNone)) = false := by exact rfl) : PE X (.Call (.Name x p) [] kws pos) (tE b (eCall g l)) := by
  obtain ⟨fd, ps, gv, gV, sp0, F, hb, hkp, imp⟩ := h
  have base : PE X (.Call (.Name x p) [] kws pos) (fun σ H Q => tA b l σ H fun zs H1 => zs.length = ks.length ∧ sp0 (gV [] zs) H1 Q E0) := by
    refine ⟨fun pins s σ H Q I h => ?_⟩
    refine wpAny_Call_Name_kw (ld_glob I hg hm ?_ hdb)
    refine PySem.W.callWith_KW0 (h₀ := X.base) I.ok.mod.kin hkp hall ?_ hpl
    refine thn (ha.run pos pins s σ H _ I h) fun ws s2 ⟨zs, H2, I2, rz, l2, q2⟩ => ⟨I2.kIn, ?_⟩
    rw [hks]
    exact run_fnN (us := []) (vs := []) F (hr.mono hk) hb pass0 I2 .nil rz rfl l2 q2
  refine base.weak fun σ H Q h => ?_
  obtain ⟨F0, G, S, ds, S', e, rel, kk⟩ := call_w (E := E0) q hn h
  exact ⟨F0, G, S, ds, S', e, rel, fun F1 vs H1 s1 r1 h1 => imp vs H1 Q E0 (kk F1 vs H1 s1 r1 h1)⟩
end
end Tee
set_option maxRecDepth 100000
set_option maxHeartbeats 4000000
/-! Each def's derivation. -/
namespace Tee
open PySem PySem.Spec PyProof.Rows L2
theorem m_ahead0_len {ds : List D} {d : D} (h : m_ahead0 ds = some d) : ds.length = 2 := by
  unfold m_ahead0 at h
  split at h
  · rename_i e
    exact runX_len (k := 2) (n := 4) (m := b_laying_ahead) (by intro z; rw [show x_laying_ahead ds = runX 2 4 b_laying_ahead ds from rfl, z] at e; cases e)
  · cases h
theorem kw_next_len {ds : List D} {d : D} (h : kw_next ds = some d) : ds.length = 2 := by
  unfold kw_next at h
  split at h
  · rfl
  · cases h
theorem sc_is_number : FnScope ["thing"] ["thing"] d_is_number.scope := ⟨rfl, rfl, rfl, by decide +kernel, rfl, by decide +kernel, by decide +kernel⟩
theorem by_is_number {P : Program} {w : World} {K : PySem.W.Frag} {mg : PySem.Str → Option Value} {base : Heap} (hd : Hd K mg) : Body P w K mg base ["thing"] d_is_number 0 b_is_number := fun f cdv A outer s F H E ok hr =>
  have sc := sc_is_number
  (q_one (q_ret ((r_and (nIsInt ok (hd.free 80 rfl) (hd.free 86 rfl) (nV 0)) (pe_one (r_not (nIsBool ok (hd.free 80 rfl) (hd.free 94 rfl) (nV 0))))))))
theorem ok_is_number {P : Program} {w : World} {K : PySem.W.Frag} {mg : PySem.Str → Option Value} {base : Heap} (hd : Hd K mg) : Has P w K mg base d_is_number.at_ 1 ["thing"] (spF (bd0 K w) 1 m_is_number) := has_fn hd 0 rfl sc_is_number rfl (fun Fn => FunD.bindsN Fn fun _ _ _ _ _ _ us hl => match us, hl with | [_], _ => rfl) (by_is_number hd)
theorem sc_is_from : FnScope ["thing", "least"] ["thing", "least"] d_is_from.scope := ⟨rfl, rfl, rfl, by decide +kernel, rfl, by decide +kernel, by decide +kernel⟩
theorem by_is_from {P : Program} {w : World} {K : PySem.W.Frag} {mg : PySem.Str → Option Value} {base : Heap} (hd : Hd K mg) (h_is_number : Has P w K mg base ("is_number", none) 1 ["thing"] (spF (bd0 K w) 1 m_is_number)) : Body P w K mg base ["thing", "least"] d_is_from 1 b_is_from := fun f cdv A outer s F H E ok hr =>
  have sc := sc_is_from
  (q_one (q_ret ((r_and (nCall (ps := ["thing"]) (g := m_is_number) h_is_number (hd.glo 0 rfl) bd_eqv hr (by decide) (aC' (nV 0) a_nil)) (pe_one (nGeI ok (nV 0) (nV 1)))))))
theorem ok_is_from {P : Program} {w : World} {K : PySem.W.Frag} {mg : PySem.Str → Option Value} {base : Heap} (hd : Hd K mg) (h_is_number : Has P w K mg base ("is_number", none) 1 ["thing"] (spF (bd0 K w) 1 m_is_number)) : Has P w K mg base d_is_from.at_ 2 ["thing", "least"] (spF (bd0 K w) 2 m_is_from) := has_fn hd 1 rfl sc_is_from rfl (fun Fn => FunD.bindsN Fn fun _ _ _ _ _ _ us hl => match us, hl with | [_, _], _ => rfl) (by_is_from hd h_is_number)
theorem sc_is_long : FnScope ["thing", "length"] ["thing", "length"] d_is_long.scope := ⟨rfl, rfl, rfl, by decide +kernel, rfl, by decide +kernel, by decide +kernel⟩
theorem by_is_long {P : Program} {w : World} {K : PySem.W.Frag} {mg : PySem.Str → Option Value} {base : Heap} (hd : Hd K mg) : Body P w K mg base ["thing", "length"] d_is_long 0 b_is_long := fun f cdv A outer s F H E ok hr =>
  have sc := sc_is_long
  (q_one (q_ret ((r_and (nIsTup ok (hd.free 80 rfl) (hd.free 81 rfl) (nV 0)) (pe_one (nEq ok (nLen ok (hd.free 79 rfl) (nV 0)) (nV 1)))))))
theorem ok_is_long {P : Program} {w : World} {K : PySem.W.Frag} {mg : PySem.Str → Option Value} {base : Heap} (hd : Hd K mg) : Has P w K mg base d_is_long.at_ 1 ["thing", "length"] (spF (bd0 K w) 2 m_is_long) := has_fn hd 2 rfl sc_is_long rfl (fun Fn => FunD.bindsN Fn fun _ _ _ _ _ _ us hl => match us, hl with | [_, _], _ => rfl) (by_is_long hd)
theorem sc_tupled : FnScope ["value", "own"] ["value"] d_tupled.scope := ⟨rfl, rfl, rfl, by decide +kernel, rfl, by decide +kernel, by decide +kernel⟩
theorem by_tupled {P : Program} {w : World} {K : PySem.W.Frag} {mg : PySem.Str → Option Value} {base : Heap} {j : Nat} {g : List D → Option D} (hj : 0 ≤ j) (hd : Hd K mg) (me : Has P w K mg base ("tupled", none) j ["value"] (spF (bd0 K w) 1 g)) (hg : ∀ ds d, g ds = some d → ds.length = 1) : Body P w K mg base ["value", "own"] d_tupled j (b_tupled g) := fun f cdv A outer s F H E ok hr =>
  have sc := sc_tupled
  (q_one (q_ret (r_if (nTest (nIsLT ok (hd.free 80 rfl) (hd.free 91 rfl) (hd.free 81 rfl) (nV 0))) (nTuple ok (hd.free 81 rfl) (r_lc ok sc.nd (i_of ok (nV 0)) (blkOk_by (own := [("own", 1)]) rfl) rfl rfl (fun _ _ _ _ _ => (gN 1 sc.nd)) (fun _ _ _ _ _ => pts_nil) (fun _ _ _ _ _ => (nCall (ps := ["value"]) (g := g) me (hd.glo 3 rfl) bd_eqv (by exact hr) (Nat.le_refl _) (aC' (nV 1) a_nil) hg)) (fun _ => rfl))) (nV 0))))
theorem sc_ascends : FnScope ["row", "k"] ["row"] d_ascends.scope := ⟨rfl, rfl, rfl, by decide +kernel, rfl, by decide +kernel, by decide +kernel⟩
theorem by_ascends {P : Program} {w : World} {K : PySem.W.Frag} {mg : PySem.Str → Option Value} {base : Heap} (hd : Hd K mg) : Body P w K mg base ["row", "k"] d_ascends 0 b_ascends := fun f cdv A outer s F H E ok hr =>
  have sc := sc_ascends
  (q_one (q_ret (nAll ok (hd.free 82 rfl) (r_lc ok sc.nd (iRange' (hd.free 83 rfl) (nSub ok (nLen ok (hd.free 79 rfl) (nV 0)) (r_int))) (blkOk_by (own := [("k", 1)]) rfl) rfl rfl (fun _ _ _ _ _ => (gN 1 sc.nd)) (fun _ _ _ _ _ => pts_nil) (fun _ _ _ _ _ => (nLt ok.blk (nIx ok.blk (nV 0) (nV 1)) (nIx ok.blk (nV 0) (nAdd ok.blk (nV 1) (r_int))))) (fun _ => rfl)))))
theorem ok_ascends {P : Program} {w : World} {K : PySem.W.Frag} {mg : PySem.Str → Option Value} {base : Heap} (hd : Hd K mg) : Has P w K mg base d_ascends.at_ 1 ["row"] (spF (bd0 K w) 1 m_ascends) := has_fn hd 4 rfl sc_ascends rfl (fun Fn => FunD.bindsN Fn fun _ _ _ _ _ _ us hl => match us, hl with | [_], _ => rfl) (by_ascends hd)
theorem sc_set_of : FnScope ["row"] ["row"] d_set_of.scope := ⟨rfl, rfl, rfl, by decide +kernel, rfl, by decide +kernel, by decide +kernel⟩
theorem by_set_of {P : Program} {w : World} {K : PySem.W.Frag} {mg : PySem.Str → Option Value} {base : Heap} (hd : Hd K mg) : Body P w K mg base ["row"] d_set_of 0 b_set_of := fun f cdv A outer s F H E ok hr =>
  have sc := sc_set_of
  (q_one (q_ret (nTuple ok (hd.free 81 rfl) (nSet ok (hd.free 84 rfl) (hd.free 85 rfl) (nV 0)))))
theorem ok_set_of {P : Program} {w : World} {K : PySem.W.Frag} {mg : PySem.Str → Option Value} {base : Heap} (hd : Hd K mg) : Has P w K mg base d_set_of.at_ 1 ["row"] (spF (bd0 K w) 1 m_set_of) := has_fn hd 5 rfl sc_set_of rfl (fun Fn => FunD.bindsN Fn fun _ _ _ _ _ _ us hl => match us, hl with | [_], _ => rfl) (by_set_of hd)
theorem sc_are_numbers : FnScope ["thing", "own"] ["thing"] d_are_numbers.scope := ⟨rfl, rfl, rfl, by decide +kernel, rfl, by decide +kernel, by decide +kernel⟩
theorem by_are_numbers {P : Program} {w : World} {K : PySem.W.Frag} {mg : PySem.Str → Option Value} {base : Heap} (hd : Hd K mg) (h_is_number : Has P w K mg base ("is_number", none) 1 ["thing"] (spF (bd0 K w) 1 m_is_number)) : Body P w K mg base ["thing", "own"] d_are_numbers 1 b_are_numbers := fun f cdv A outer s F H E ok hr =>
  have sc := sc_are_numbers
  (q_one (q_ret ((r_and (nIsTup ok (hd.free 80 rfl) (hd.free 81 rfl) (nV 0)) (pe_one (nAll ok (hd.free 82 rfl) (r_lc ok sc.nd (i_of ok (nV 0)) (blkOk_by (own := [("own", 1)]) rfl) rfl rfl (fun _ _ _ _ _ => (gN 1 sc.nd)) (fun _ _ _ _ _ => pts_nil) (fun _ _ _ _ _ => (nCall (ps := ["thing"]) (g := m_is_number) h_is_number (hd.glo 0 rfl) bd_eqv (by exact hr) (by decide) (aC' (nV 1) a_nil))) (fun _ => rfl))))))))
theorem ok_are_numbers {P : Program} {w : World} {K : PySem.W.Frag} {mg : PySem.Str → Option Value} {base : Heap} (hd : Hd K mg) (h_is_number : Has P w K mg base ("is_number", none) 1 ["thing"] (spF (bd0 K w) 1 m_is_number)) : Has P w K mg base d_are_numbers.at_ 2 ["thing"] (spF (bd0 K w) 1 m_are_numbers) := has_fn hd 6 rfl sc_are_numbers rfl (fun Fn => FunD.bindsN Fn fun _ _ _ _ _ _ us hl => match us, hl with | [_], _ => rfl) (by_are_numbers hd h_is_number)
theorem sc_is_pair : FnScope ["thing"] ["thing"] d_is_pair.scope := ⟨rfl, rfl, rfl, by decide +kernel, rfl, by decide +kernel, by decide +kernel⟩
theorem by_is_pair {P : Program} {w : World} {K : PySem.W.Frag} {mg : PySem.Str → Option Value} {base : Heap} (hd : Hd K mg) (h_are_numbers : Has P w K mg base ("are_numbers", none) 2 ["thing"] (spF (bd0 K w) 1 m_are_numbers)) (h_is_long : Has P w K mg base ("is_long", none) 1 ["thing", "length"] (spF (bd0 K w) 2 m_is_long)) : Body P w K mg base ["thing"] d_is_pair 2 b_is_pair := fun f cdv A outer s F H E ok hr =>
  have sc := sc_is_pair
  (q_one (q_ret ((r_and (nCall (ps := ["thing", "length"]) (g := m_is_long) h_is_long (hd.glo 2 rfl) bd_eqv hr (by decide) (aC' (nV 0) (aC' (r_int) a_nil))) (pe_one (nCall (ps := ["thing"]) (g := m_are_numbers) h_are_numbers (hd.glo 6 rfl) bd_eqv hr (by decide) (aC' (nV 0) a_nil)))))))
theorem ok_is_pair {P : Program} {w : World} {K : PySem.W.Frag} {mg : PySem.Str → Option Value} {base : Heap} (hd : Hd K mg) (h_are_numbers : Has P w K mg base ("are_numbers", none) 2 ["thing"] (spF (bd0 K w) 1 m_are_numbers)) (h_is_long : Has P w K mg base ("is_long", none) 1 ["thing", "length"] (spF (bd0 K w) 2 m_is_long)) : Has P w K mg base d_is_pair.at_ 3 ["thing"] (spF (bd0 K w) 1 m_is_pair) := has_fn hd 7 rfl sc_is_pair rfl (fun Fn => FunD.bindsN Fn fun _ _ _ _ _ _ us hl => match us, hl with | [_], _ => rfl) (by_is_pair hd h_are_numbers h_is_long)
theorem sc_is_floor : FnScope ["thing"] ["thing"] d_is_floor.scope := ⟨rfl, rfl, rfl, by decide +kernel, rfl, by decide +kernel, by decide +kernel⟩
theorem by_is_floor {P : Program} {w : World} {K : PySem.W.Frag} {mg : PySem.Str → Option Value} {base : Heap} (hd : Hd K mg) (h_is_from : Has P w K mg base ("is_from", none) 2 ["thing", "least"] (spF (bd0 K w) 2 m_is_from)) (h_is_long : Has P w K mg base ("is_long", none) 1 ["thing", "length"] (spF (bd0 K w) 2 m_is_long)) : Body P w K mg base ["thing"] d_is_floor 2 b_is_floor := fun f cdv A outer s F H E ok hr =>
  have sc := sc_is_floor
  (q_one (q_ret ((r_and (nCall (ps := ["thing", "length"]) (g := m_is_long) h_is_long (hd.glo 2 rfl) bd_eqv hr (by decide) (aC' (nV 0) (aC' (r_int) a_nil))) (r_and (nCall (ps := ["thing", "least"]) (g := m_is_from) h_is_from (hd.glo 1 rfl) bd_eqv hr (by decide) (aC' (nIx ok (nV 0) (r_int)) (aC' (r_int) a_nil))) (pe_one (nCall (ps := ["thing", "least"]) (g := m_is_from) h_is_from (hd.glo 1 rfl) bd_eqv hr (by decide) (aC' (nIx ok (nV 0) (r_int)) (aC' (r_int) a_nil)))))))))
theorem ok_is_floor {P : Program} {w : World} {K : PySem.W.Frag} {mg : PySem.Str → Option Value} {base : Heap} (hd : Hd K mg) (h_is_from : Has P w K mg base ("is_from", none) 2 ["thing", "least"] (spF (bd0 K w) 2 m_is_from)) (h_is_long : Has P w K mg base ("is_long", none) 1 ["thing", "length"] (spF (bd0 K w) 2 m_is_long)) : Has P w K mg base d_is_floor.at_ 3 ["thing"] (spF (bd0 K w) 1 m_is_floor) := has_fn hd 8 rfl sc_is_floor rfl (fun Fn => FunD.bindsN Fn fun _ _ _ _ _ _ us hl => match us, hl with | [_], _ => rfl) (by_is_floor hd h_is_from h_is_long)
theorem sc_sure_floor : FnScope ["floor", "own"] ["floor"] d_sure_floor.scope := ⟨rfl, rfl, rfl, by decide +kernel, rfl, by decide +kernel, by decide +kernel⟩
theorem by_sure_floor {P : Program} {w : World} {K : PySem.W.Frag} {mg : PySem.Str → Option Value} {base : Heap} (hd : Hd K mg) (h_is_floor : Has P w K mg base ("is_floor", none) 3 ["thing"] (spF (bd0 K w) 1 m_is_floor)) (h_tupled : Has P w K mg base ("tupled", none) 6 ["value"] (spF (bd0 K w) 1 (m_tupled 6))) : Body P w K mg base ["floor", "own"] d_sure_floor 6 b_sure_floor := fun f cdv A outer s F H E ok hr =>
  have sc := sc_sure_floor
  (q_cons (sSet' 1 (nCall (ps := ["value"]) (g := m_tupled 6) h_tupled (hd.glo 3 rfl) bd_eqv hr (by decide) (aC' (nV 0) a_nil)) sc.nd) (q_cons (q_if (t_not (nTest (nCall (ps := ["thing"]) (g := m_is_floor) h_is_floor (hd.glo 8 rfl) bd_eqv hr (by decide) (aC' (nV 1) a_nil)))) (q_one sNo') q_nil) (q_one (q_ret (nV 1)))))
theorem ok_sure_floor {P : Program} {w : World} {K : PySem.W.Frag} {mg : PySem.Str → Option Value} {base : Heap} (hd : Hd K mg) (h_is_floor : Has P w K mg base ("is_floor", none) 3 ["thing"] (spF (bd0 K w) 1 m_is_floor)) (h_tupled : Has P w K mg base ("tupled", none) 6 ["value"] (spF (bd0 K w) 1 (m_tupled 6))) : Has P w K mg base d_sure_floor.at_ 7 ["floor"] (spF (bd0 K w) 1 m_sure_floor) := has_fn hd 9 rfl sc_sure_floor rfl (fun Fn => FunD.bindsN Fn fun _ _ _ _ _ _ us hl => match us, hl with | [_], _ => rfl) (by_sure_floor hd h_is_floor h_tupled)
theorem sc_is_block_in : FnScope ["floor", "thing"] ["floor", "thing"] d_is_block_in.scope := ⟨rfl, rfl, rfl, by decide +kernel, rfl, by decide +kernel, by decide +kernel⟩
theorem by_is_block_in {P : Program} {w : World} {K : PySem.W.Frag} {mg : PySem.Str → Option Value} {base : Heap} (hd : Hd K mg) (h_is_pair : Has P w K mg base ("is_pair", none) 3 ["thing"] (spF (bd0 K w) 1 m_is_pair)) : Body P w K mg base ["floor", "thing"] d_is_block_in 3 b_is_block_in := fun f cdv A outer s F H E ok hr =>
  have sc := sc_is_block_in
  (q_one (q_ret ((r_and (nCall (ps := ["thing"]) (g := m_is_pair) h_is_pair (hd.glo 7 rfl) bd_eqv hr (by decide) (aC' (nV 1) a_nil)) (r_and (nCh_LeI_LtI (r_int) (nIx ok (nV 1) (r_int)) (nMul ok (r_int) (nIx ok (nV 0) (r_int)))) (pe_one (nCh_LeI_LtI (r_int) (nIx ok (nV 1) (r_int)) (nMul ok (r_int) (nIx ok (nV 0) (r_int))))))))))
theorem ok_is_block_in {P : Program} {w : World} {K : PySem.W.Frag} {mg : PySem.Str → Option Value} {base : Heap} (hd : Hd K mg) (h_is_pair : Has P w K mg base ("is_pair", none) 3 ["thing"] (spF (bd0 K w) 1 m_is_pair)) : Has P w K mg base d_is_block_in.at_ 4 ["floor", "thing"] (spF (bd0 K w) 2 m_is_block_in) := has_fn hd 10 rfl sc_is_block_in rfl (fun Fn => FunD.bindsN Fn fun _ _ _ _ _ _ us hl => match us, hl with | [_, _], _ => rfl) (by_is_block_in hd h_is_pair)
theorem sc_pairs_from : FnScope ["low", "wide", "high", "found", "i", "j"] ["low", "wide", "high"] d_pairs_from.scope := ⟨rfl, rfl, rfl, by decide +kernel, rfl, by decide +kernel, by decide +kernel⟩
theorem by_pairs_from {P : Program} {w : World} {K : PySem.W.Frag} {mg : PySem.Str → Option Value} {base : Heap} (hd : Hd K mg) : Body P w K mg base ["low", "wide", "high", "found", "i", "j"] d_pairs_from 0 b_pairs_from := fun f cdv A outer s F H E ok hr =>
  have sc := sc_pairs_from
  (q_cons (sNewL' 3 a_nil sc.nd) (q_cons (sFor' PassesOwn.never ok (iRange' (hd.free 83 rfl) (nV 1)) (gN 4 sc.nd) (q_one (sExt' 3 (nW 3) (r_lc ok sc.nd (iRange' (hd.free 83 rfl) (nV 2)) (blkOk_by (own := [("j", 5)]) rfl) rfl rfl (fun _ _ _ _ _ => (gN 5 sc.nd)) (fun _ _ _ _ _ => pts_nil) (fun _ _ _ _ _ => (nTup (aC' (nAdd ok.blk (nIx ok.blk (nV 0) (r_int)) (nV 4)) (aC' (nAdd ok.blk (nIx ok.blk (nV 0) (r_int)) (nV 5)) a_nil)))) (fun _ => rfl))))) (q_one (q_ret (nV 3)))))
theorem ok_pairs_from {P : Program} {w : World} {K : PySem.W.Frag} {mg : PySem.Str → Option Value} {base : Heap} (hd : Hd K mg) : Has P w K mg base d_pairs_from.at_ 1 ["low", "wide", "high"] (spF (bd0 K w) 3 m_pairs_from) := has_fn hd 11 rfl sc_pairs_from rfl (fun Fn => FunD.bindsN Fn fun _ _ _ _ _ _ us hl => match us, hl with | [_, _, _], _ => rfl) (by_pairs_from hd)
theorem sc_blocks_in : FnScope ["floor"] ["floor"] d_blocks_in.scope := ⟨rfl, rfl, rfl, by decide +kernel, rfl, by decide +kernel, by decide +kernel⟩
theorem by_blocks_in {P : Program} {w : World} {K : PySem.W.Frag} {mg : PySem.Str → Option Value} {base : Heap} (hd : Hd K mg) (h_pairs_from : Has P w K mg base ("pairs_from", none) 1 ["low", "wide", "high"] (spF (bd0 K w) 3 m_pairs_from)) : Body P w K mg base ["floor"] d_blocks_in 1 b_blocks_in := fun f cdv A outer s F H E ok hr =>
  have sc := sc_blocks_in
  (q_one (q_ret (nCall (ps := ["low", "wide", "high"]) (g := m_pairs_from) h_pairs_from (hd.glo 11 rfl) bd_eqv hr (by decide) (aC' (nTup (aC' (r_int) (aC' (r_int) a_nil))) (aC' (nMul ok (r_int) (nIx ok (nV 0) (r_int))) (aC' (nMul ok (r_int) (nIx ok (nV 0) (r_int))) a_nil))))))
theorem ok_blocks_in {P : Program} {w : World} {K : PySem.W.Frag} {mg : PySem.Str → Option Value} {base : Heap} (hd : Hd K mg) (h_pairs_from : Has P w K mg base ("pairs_from", none) 1 ["low", "wide", "high"] (spF (bd0 K w) 3 m_pairs_from)) : Has P w K mg base d_blocks_in.at_ 2 ["floor"] (spF (bd0 K w) 1 m_blocks_in) := has_fn hd 12 rfl sc_blocks_in rfl (fun Fn => FunD.bindsN Fn fun _ _ _ _ _ _ us hl => match us, hl with | [_], _ => rfl) (by_blocks_in hd h_pairs_from)
theorem sc_is_piece : FnScope ["thing"] ["thing"] d_is_piece.scope := ⟨rfl, rfl, rfl, by decide +kernel, rfl, by decide +kernel, by decide +kernel⟩
theorem by_is_piece {P : Program} {w : World} {K : PySem.W.Frag} {mg : PySem.Str → Option Value} {base : Heap} (hd : Hd K mg) (h_are_numbers : Has P w K mg base ("are_numbers", none) 2 ["thing"] (spF (bd0 K w) 1 m_are_numbers)) (h_is_long : Has P w K mg base ("is_long", none) 1 ["thing", "length"] (spF (bd0 K w) 2 m_is_long)) : Body P w K mg base ["thing"] d_is_piece 2 b_is_piece := fun f cdv A outer s F H E ok hr =>
  have sc := sc_is_piece
  (q_one (q_ret ((r_and (nCall (ps := ["thing", "length"]) (g := m_is_long) h_is_long (hd.glo 2 rfl) bd_eqv hr (by decide) (aC' (nV 0) (aC' (r_int) a_nil))) (r_and (nCall (ps := ["thing"]) (g := m_are_numbers) h_are_numbers (hd.glo 6 rfl) bd_eqv hr (by decide) (aC' (nV 0) a_nil)) (pe_one (nCh_LeI_LeI (r_int) (nIx ok (nV 0) (r_int)) (r_int))))))))
theorem ok_is_piece {P : Program} {w : World} {K : PySem.W.Frag} {mg : PySem.Str → Option Value} {base : Heap} (hd : Hd K mg) (h_are_numbers : Has P w K mg base ("are_numbers", none) 2 ["thing"] (spF (bd0 K w) 1 m_are_numbers)) (h_is_long : Has P w K mg base ("is_long", none) 1 ["thing", "length"] (spF (bd0 K w) 2 m_is_long)) : Has P w K mg base d_is_piece.at_ 3 ["thing"] (spF (bd0 K w) 1 m_is_piece) := has_fn hd 13 rfl sc_is_piece rfl (fun Fn => FunD.bindsN Fn fun _ _ _ _ _ _ us hl => match us, hl with | [_], _ => rfl) (by_is_piece hd h_are_numbers h_is_long)
theorem sc_beside : FnScope ["cell", "way", "right", "up"] ["cell", "way"] d_beside.scope := ⟨rfl, rfl, rfl, by decide +kernel, rfl, by decide +kernel, by decide +kernel⟩
theorem by_beside {P : Program} {w : World} {K : PySem.W.Frag} {mg : PySem.Str → Option Value} {base : Heap} (hd : Hd K mg) : Body P w K mg base ["cell", "way", "right", "up"] d_beside 0 b_beside := fun f cdv A outer s F H E ok hr =>
  have sc := sc_beside
  (q_cons (q_unp (nIx ok (nSteps hd rfl bd_eqv) (nMod ok (nV 1) (r_int))) (gT ok (gC (gN 2 sc.nd) (gC (gN 3 sc.nd) gs_nil))) rfl rfl rfl) (q_one (q_ret (nTup (aC' (nAdd ok (nIx ok (nV 0) (r_int)) (nV 2)) (aC' (nAdd ok (nIx ok (nV 0) (r_int)) (nV 3)) a_nil))))))
theorem ok_beside {P : Program} {w : World} {K : PySem.W.Frag} {mg : PySem.Str → Option Value} {base : Heap} (hd : Hd K mg) : Has P w K mg base d_beside.at_ 1 ["cell", "way"] (spF (bd0 K w) 2 m_beside) := has_fn hd 14 rfl sc_beside rfl (fun Fn => FunD.bindsN Fn fun _ _ _ _ _ _ us hl => match us, hl with | [_, _], _ => rfl) (by_beside hd)
theorem sc_cells_in : FnScope ["piece", "middle", "way"] ["piece"] d_cells_in.scope := ⟨rfl, rfl, rfl, by decide +kernel, rfl, by decide +kernel, by decide +kernel⟩
theorem by_cells_in {P : Program} {w : World} {K : PySem.W.Frag} {mg : PySem.Str → Option Value} {base : Heap} (hd : Hd K mg) (h_beside : Has P w K mg base ("beside", none) 1 ["cell", "way"] (spF (bd0 K w) 2 m_beside)) : Body P w K mg base ["piece", "middle", "way"] d_cells_in 1 b_cells_in := fun f cdv A outer s F H E ok hr =>
  have sc := sc_cells_in
  (q_cons (q_par2 ok sc.nd (i := 1) (j := 2) rfl rfl (by decide) rfl rfl (pC' (r_take ok (nV 0) (r_int)) (pC' (nIx ok (nV 0) (r_int)) p_nil)) rfl rfl) (q_one (q_ret (nTuple ok (hd.free 81 rfl) (nSorted (.l .i) ok (hd.free 84 rfl) (by decide) (by decide) (r_lst (aC' (nV 1) (aC' (nCall (ps := ["cell", "way"]) (g := m_beside) h_beside (hd.glo 14 rfl) bd_eqv hr (by decide) (aC' (nV 1) (aC' (nV 2) a_nil))) (aC' (nCall (ps := ["cell", "way"]) (g := m_beside) h_beside (hd.glo 14 rfl) bd_eqv hr (by decide) (aC' (nV 1) (aC' (nAdd ok (nV 2) (r_int)) a_nil))) (aC' (nCall (ps := ["cell", "way"]) (g := m_beside) h_beside (hd.glo 14 rfl) bd_eqv hr (by decide) (aC' (nV 1) (aC' (nSub ok (nV 2) (r_int)) a_nil))) a_nil))))))))))
theorem ok_cells_in {P : Program} {w : World} {K : PySem.W.Frag} {mg : PySem.Str → Option Value} {base : Heap} (hd : Hd K mg) (h_beside : Has P w K mg base ("beside", none) 1 ["cell", "way"] (spF (bd0 K w) 2 m_beside)) : Has P w K mg base d_cells_in.at_ 2 ["piece"] (spF (bd0 K w) 1 m_cells_in) := has_fn hd 15 rfl sc_cells_in rfl (fun Fn => FunD.bindsN Fn fun _ _ _ _ _ _ us hl => match us, hl with | [_], _ => rfl) (by_cells_in hd h_beside)
theorem sc_middle_by : FnScope ["block", "sign", "east", "north"] ["block", "sign"] d_middle_by.scope := ⟨rfl, rfl, rfl, by decide +kernel, rfl, by decide +kernel, by decide +kernel⟩
theorem by_middle_by {P : Program} {w : World} {K : PySem.W.Frag} {mg : PySem.Str → Option Value} {base : Heap} (hd : Hd K mg) : Body P w K mg base ["block", "sign", "east", "north"] d_middle_by 0 b_middle_by := fun f cdv A outer s F H E ok hr =>
  have sc := sc_middle_by
  (q_cons (q_par2 ok sc.nd (i := 2) (j := 3) rfl rfl (by decide) rfl rfl (pC' (nSub ok (nMul ok (r_int) (nMod ok (nIx ok (nV 0) (r_int)) (r_int))) (r_int)) (pC' (nSub ok (nMul ok (r_int) (nMod ok (nIx ok (nV 0) (r_int)) (r_int))) (r_int)) p_nil)) rfl rfl) (q_one (q_ret (nTup (aC' (nAdd ok (nMul ok (r_int) (nIx ok (nV 0) (r_int))) (nInt ok (hd.free 86 rfl) (nEq ok (nMul ok (nV 3) (nV 1)) (nNeg (r_int))))) (aC' (nAdd ok (nMul ok (r_int) (nIx ok (nV 0) (r_int))) (nInt ok (hd.free 86 rfl) (nEq ok (nMul ok (nV 2) (nV 1)) (r_int)))) a_nil))))))
theorem ok_middle_by {P : Program} {w : World} {K : PySem.W.Frag} {mg : PySem.Str → Option Value} {base : Heap} (hd : Hd K mg) : Has P w K mg base d_middle_by.at_ 1 ["block", "sign"] (spF (bd0 K w) 2 m_middle_by) := has_fn hd 16 rfl sc_middle_by rfl (fun Fn => FunD.bindsN Fn fun _ _ _ _ _ _ us hl => match us, hl with | [_, _], _ => rfl) (by_middle_by hd)
theorem sc_own_block_in : FnScope ["piece"] ["piece"] d_own_block_in.scope := ⟨rfl, rfl, rfl, by decide +kernel, rfl, by decide +kernel, by decide +kernel⟩
theorem by_own_block_in {P : Program} {w : World} {K : PySem.W.Frag} {mg : PySem.Str → Option Value} {base : Heap} (hd : Hd K mg) : Body P w K mg base ["piece"] d_own_block_in 0 b_own_block_in := fun f cdv A outer s F H E ok hr =>
  have sc := sc_own_block_in
  (q_one (q_ret (nTup (aC' (nDiv ok (nIx ok (nV 0) (r_int)) (r_int)) (aC' (nDiv ok (nIx ok (nV 0) (r_int)) (r_int)) a_nil)))))
theorem ok_own_block_in {P : Program} {w : World} {K : PySem.W.Frag} {mg : PySem.Str → Option Value} {base : Heap} (hd : Hd K mg) : Has P w K mg base d_own_block_in.at_ 1 ["piece"] (spF (bd0 K w) 1 m_own_block_in) := has_fn hd 17 rfl sc_own_block_in rfl (fun Fn => FunD.bindsN Fn fun _ _ _ _ _ _ us hl => match us, hl with | [_], _ => rfl) (by_own_block_in hd)
theorem sc_sign_in : FnScope ["piece", "block", "sign"] ["piece"] d_sign_in.scope := ⟨rfl, rfl, rfl, by decide +kernel, rfl, by decide +kernel, by decide +kernel⟩
theorem by_sign_in {P : Program} {w : World} {K : PySem.W.Frag} {mg : PySem.Str → Option Value} {base : Heap} (hd : Hd K mg) (h_middle_by : Has P w K mg base ("middle_by", none) 1 ["block", "sign"] (spF (bd0 K w) 2 m_middle_by)) (h_own_block_in : Has P w K mg base ("own_block_in", none) 1 ["piece"] (spF (bd0 K w) 1 m_own_block_in)) : Body P w K mg base ["piece", "block", "sign"] d_sign_in 1 b_sign_in := fun f cdv A outer s F H E ok hr =>
  have sc := sc_sign_in
  (q_cons (sSet' 1 (nCall (ps := ["piece"]) (g := m_own_block_in) h_own_block_in (hd.glo 17 rfl) bd_eqv hr (by decide) (aC' (nV 0) a_nil)) sc.nd) (q_cons (sFor' PassesOwn.never ok (i_of ok (nTup (aC' (r_int) (aC' (nNeg (r_int)) a_nil)))) (gN 2 sc.nd) (q_one (q_if (nEqT ok (nCall (ps := ["block", "sign"]) (g := m_middle_by) h_middle_by (hd.glo 16 rfl) bd_eqv hr (by decide) (aC' (nV 1) (aC' (nV 2) a_nil))) (r_take ok (nV 0) (r_int))) (q_one (q_ret (nV 2))) q_nil))) (q_one (q_ret (r_int)))))
theorem ok_sign_in {P : Program} {w : World} {K : PySem.W.Frag} {mg : PySem.Str → Option Value} {base : Heap} (hd : Hd K mg) (h_middle_by : Has P w K mg base ("middle_by", none) 1 ["block", "sign"] (spF (bd0 K w) 2 m_middle_by)) (h_own_block_in : Has P w K mg base ("own_block_in", none) 1 ["piece"] (spF (bd0 K w) 1 m_own_block_in)) : Has P w K mg base d_sign_in.at_ 2 ["piece"] (spF (bd0 K w) 1 m_sign_in) := has_fn hd 18 rfl sc_sign_in rfl (fun Fn => FunD.bindsN Fn fun _ _ _ _ _ _ us hl => match us, hl with | [_], _ => rfl) (by_sign_in hd h_middle_by h_own_block_in)
theorem sc_outward : FnScope ["number"] ["number"] d_outward.scope := ⟨rfl, rfl, rfl, by decide +kernel, rfl, by decide +kernel, by decide +kernel⟩
theorem by_outward {P : Program} {w : World} {K : PySem.W.Frag} {mg : PySem.Str → Option Value} {base : Heap} (hd : Hd K mg) : Body P w K mg base ["number"] d_outward 0 b_outward := fun f cdv A outer s F H E ok hr =>
  have sc := sc_outward
  (q_one (q_ret (nSub ok (nMul ok (r_int) (nMod ok (nV 0) (r_int))) (r_int))))
theorem ok_outward {P : Program} {w : World} {K : PySem.W.Frag} {mg : PySem.Str → Option Value} {base : Heap} (hd : Hd K mg) : Has P w K mg base d_outward.at_ 1 ["number"] (spF (bd0 K w) 1 m_outward) := has_fn hd 19 rfl sc_outward rfl (fun Fn => FunD.bindsN Fn fun _ _ _ _ _ _ us hl => match us, hl with | [_], _ => rfl) (by_outward hd)
theorem sc_goes_in : FnScope ["piece", "i", "j"] ["piece"] d_goes_in.scope := ⟨rfl, rfl, rfl, by decide +kernel, rfl, by decide +kernel, by decide +kernel⟩
theorem by_goes_in {P : Program} {w : World} {K : PySem.W.Frag} {mg : PySem.Str → Option Value} {base : Heap} (hd : Hd K mg) (h_outward : Has P w K mg base ("outward", none) 1 ["number"] (spF (bd0 K w) 1 m_outward)) (h_own_block_in : Has P w K mg base ("own_block_in", none) 1 ["piece"] (spF (bd0 K w) 1 m_own_block_in)) : Body P w K mg base ["piece", "i", "j"] d_goes_in 1 b_goes_in := fun f cdv A outer s F H E ok hr =>
  have sc := sc_goes_in
  (q_cons (q_unp (nCall (ps := ["piece"]) (g := m_own_block_in) h_own_block_in (hd.glo 17 rfl) bd_eqv hr (by decide) (aC' (nV 0) a_nil)) (gT ok (gC (gN 1 sc.nd) (gC (gN 2 sc.nd) gs_nil))) rfl rfl rfl) (q_cons (q_if (nEqT ok (nMod ok (nIx ok (nV 0) (r_int)) (r_int)) (r_int)) (q_one (q_ret (nTup (aC' (nAdd ok (nV 1) (nCall (ps := ["number"]) (g := m_outward) h_outward (hd.glo 19 rfl) bd_eqv hr (by decide) (aC' (nIx ok (nV 0) (r_int)) a_nil))) (aC' (nV 2) a_nil))))) q_nil) (q_one (q_ret (nTup (aC' (nV 1) (aC' (nAdd ok (nV 2) (nCall (ps := ["number"]) (g := m_outward) h_outward (hd.glo 19 rfl) bd_eqv hr (by decide) (aC' (nIx ok (nV 0) (r_int)) a_nil))) a_nil)))))))
theorem ok_goes_in {P : Program} {w : World} {K : PySem.W.Frag} {mg : PySem.Str → Option Value} {base : Heap} (hd : Hd K mg) (h_outward : Has P w K mg base ("outward", none) 1 ["number"] (spF (bd0 K w) 1 m_outward)) (h_own_block_in : Has P w K mg base ("own_block_in", none) 1 ["piece"] (spF (bd0 K w) 1 m_own_block_in)) : Has P w K mg base d_goes_in.at_ 2 ["piece"] (spF (bd0 K w) 1 m_goes_in) := has_fn hd 20 rfl sc_goes_in rfl (fun Fn => FunD.bindsN Fn fun _ _ _ _ _ _ us hl => match us, hl with | [_], _ => rfl) (by_goes_in hd h_outward h_own_block_in)
theorem sc_stem_by : FnScope ["cell", "is_level"] ["cell", "is_level"] d_stem_by.scope := ⟨rfl, rfl, rfl, by decide +kernel, rfl, by decide +kernel, by decide +kernel⟩
theorem by_stem_by {P : Program} {w : World} {K : PySem.W.Frag} {mg : PySem.Str → Option Value} {base : Heap} (hd : Hd K mg) : Body P w K mg base ["cell", "is_level"] d_stem_by 0 b_stem_by := fun f cdv A outer s F H E ok hr =>
  have sc := sc_stem_by
  (q_cons (q_if (nTest (nV 1)) (q_one (q_ret (r_if (nEqT ok (nMod ok (nIx ok (nV 0) (r_int)) (r_int)) (r_int)) (r_int) (r_int)))) q_nil) (q_one (q_ret (r_if (nEqT ok (nMod ok (nIx ok (nV 0) (r_int)) (r_int)) (r_int)) (r_int) (r_int)))))
theorem ok_stem_by {P : Program} {w : World} {K : PySem.W.Frag} {mg : PySem.Str → Option Value} {base : Heap} (hd : Hd K mg) : Has P w K mg base d_stem_by.at_ 1 ["cell", "is_level"] (spF (bd0 K w) 2 m_stem_by) := has_fn hd 21 rfl sc_stem_by rfl (fun Fn => FunD.bindsN Fn fun _ _ _ _ _ _ us hl => match us, hl with | [_, _], _ => rfl) (by_stem_by hd)
theorem sc_piece_out : FnScope ["block", "sign", "is_level", "middle"] ["block", "sign", "is_level"] d_piece_out.scope := ⟨rfl, rfl, rfl, by decide +kernel, rfl, by decide +kernel, by decide +kernel⟩
theorem by_piece_out {P : Program} {w : World} {K : PySem.W.Frag} {mg : PySem.Str → Option Value} {base : Heap} (hd : Hd K mg) (h_stem_by : Has P w K mg base ("stem_by", none) 1 ["cell", "is_level"] (spF (bd0 K w) 2 m_stem_by)) (h_middle_by : Has P w K mg base ("middle_by", none) 1 ["block", "sign"] (spF (bd0 K w) 2 m_middle_by)) : Body P w K mg base ["block", "sign", "is_level", "middle"] d_piece_out 1 b_piece_out := fun f cdv A outer s F H E ok hr =>
  have sc := sc_piece_out
  (q_cons (sSet' 3 (nCall (ps := ["block", "sign"]) (g := m_middle_by) h_middle_by (hd.glo 16 rfl) bd_eqv hr (by decide) (aC' (nV 0) (aC' (nV 1) a_nil))) sc.nd) (q_one (q_ret (nTup (aC' (nIx ok (nV 3) (r_int)) (aC' (nIx ok (nV 3) (r_int)) (aC' (nCall (ps := ["cell", "is_level"]) (g := m_stem_by) h_stem_by (hd.glo 21 rfl) bd_eqv hr (by decide) (aC' (nV 3) (aC' (nV 2) a_nil))) a_nil)))))))
theorem ok_piece_out {P : Program} {w : World} {K : PySem.W.Frag} {mg : PySem.Str → Option Value} {base : Heap} (hd : Hd K mg) (h_stem_by : Has P w K mg base ("stem_by", none) 1 ["cell", "is_level"] (spF (bd0 K w) 2 m_stem_by)) (h_middle_by : Has P w K mg base ("middle_by", none) 1 ["block", "sign"] (spF (bd0 K w) 2 m_middle_by)) : Has P w K mg base d_piece_out.at_ 2 ["block", "sign", "is_level"] (spF (bd0 K w) 3 m_piece_out) := has_fn hd 22 rfl sc_piece_out rfl (fun Fn => FunD.bindsN Fn fun _ _ _ _ _ _ us hl => match us, hl with | [_, _, _], _ => rfl) (by_piece_out hd h_stem_by h_middle_by)
theorem sc_four_in : FnScope ["floor", "block", "found", "sign", "own"] ["floor", "block"] d_four_in.scope := ⟨rfl, rfl, rfl, by decide +kernel, rfl, by decide +kernel, by decide +kernel⟩
theorem by_four_in {P : Program} {w : World} {K : PySem.W.Frag} {mg : PySem.Str → Option Value} {base : Heap} (hd : Hd K mg) (h_is_block_in : Has P w K mg base ("is_block_in", none) 4 ["floor", "thing"] (spF (bd0 K w) 2 m_is_block_in)) (h_goes_in : Has P w K mg base ("goes_in", none) 2 ["piece"] (spF (bd0 K w) 1 m_goes_in)) (h_piece_out : Has P w K mg base ("piece_out", none) 2 ["block", "sign", "is_level"] (spF (bd0 K w) 3 m_piece_out)) : Body P w K mg base ["floor", "block", "found", "sign", "own"] d_four_in 4 b_four_in := fun f cdv A outer s F H E ok hr =>
  have sc := sc_four_in
  (q_cons (sSet' 2 (nAdd ok (r_lc ok sc.nd (i_of ok (nTup (aC' (r_int) (aC' (nNeg (r_int)) a_nil)))) (blkOk_by (own := [("sign", 3)]) rfl) rfl rfl (fun _ _ _ _ _ => (gN 3 sc.nd)) (fun _ _ _ _ _ => pts_nil) (fun _ _ _ _ _ => (nCall (ps := ["block", "sign", "is_level"]) (g := m_piece_out) h_piece_out (hd.glo 22 rfl) bd_eqv (by exact hr) (by decide) (aC' (nV 1) (aC' (nV 3) (aC' (r_bl) a_nil))))) (fun _ => rfl)) (r_lc ok sc.nd (i_of ok (nTup (aC' (r_int) (aC' (nNeg (r_int)) a_nil)))) (blkOk_by (own := [("sign", 3)]) rfl) rfl rfl (fun _ _ _ _ _ => (gN 3 sc.nd)) (fun _ _ _ _ _ => pts_nil) (fun _ _ _ _ _ => (nCall (ps := ["block", "sign", "is_level"]) (g := m_piece_out) h_piece_out (hd.glo 22 rfl) bd_eqv (by exact hr) (by decide) (aC' (nV 1) (aC' (nV 3) (aC' (r_bl) a_nil))))) (fun _ => rfl))) sc.nd) (q_one (q_ret (nSorted (.l .i) ok (hd.free 84 rfl) (by decide) (by decide) (r_lc ok sc.nd (i_of ok (nV 2)) (blkOk_by (own := [("own", 4)]) rfl) rfl rfl (fun _ _ _ _ _ => (gN 4 sc.nd)) (fun _ _ _ _ _ => pts_one (nTest (nCall (ps := ["floor", "thing"]) (g := m_is_block_in) h_is_block_in (hd.glo 10 rfl) bd_eqv (by exact hr) (by decide) (aC' (nV 0) (aC' (nCall (ps := ["piece"]) (g := m_goes_in) h_goes_in (hd.glo 20 rfl) bd_eqv (by exact hr) (by decide) (aC' (nV 4) a_nil)) a_nil))))) (fun _ _ _ _ _ => (nV 4)) (fun _ => rfl))))))
theorem ok_four_in {P : Program} {w : World} {K : PySem.W.Frag} {mg : PySem.Str → Option Value} {base : Heap} (hd : Hd K mg) (h_is_block_in : Has P w K mg base ("is_block_in", none) 4 ["floor", "thing"] (spF (bd0 K w) 2 m_is_block_in)) (h_goes_in : Has P w K mg base ("goes_in", none) 2 ["piece"] (spF (bd0 K w) 1 m_goes_in)) (h_piece_out : Has P w K mg base ("piece_out", none) 2 ["block", "sign", "is_level"] (spF (bd0 K w) 3 m_piece_out)) : Has P w K mg base d_four_in.at_ 5 ["floor", "block"] (spF (bd0 K w) 2 m_four_in) := has_fn hd 23 rfl sc_four_in rfl (fun Fn => FunD.bindsN Fn fun _ _ _ _ _ _ us hl => match us, hl with | [_, _], _ => rfl) (by_four_in hd h_is_block_in h_goes_in h_piece_out)
theorem sc_tie_in : FnScope ["floor", "piece", "block", "goal", "dot", "other", "word"] ["floor", "piece"] d_tie_in.scope := ⟨rfl, rfl, rfl, by decide +kernel, rfl, by decide +kernel, by decide +kernel⟩
theorem by_tie_in {P : Program} {w : World} {K : PySem.W.Frag} {mg : PySem.Str → Option Value} {base : Heap} (hd : Hd K mg) (h_outward : Has P w K mg base ("outward", none) 1 ["number"] (spF (bd0 K w) 1 m_outward)) (h_goes_in : Has P w K mg base ("goes_in", none) 2 ["piece"] (spF (bd0 K w) 1 m_goes_in)) (h_own_block_in : Has P w K mg base ("own_block_in", none) 1 ["piece"] (spF (bd0 K w) 1 m_own_block_in)) : Body P w K mg base ["floor", "piece", "block", "goal", "dot", "other", "word"] d_tie_in 2 b_tie_in := fun f cdv A outer s F H E ok hr =>
  have sc := sc_tie_in
  (q_cons (q_par2 ok sc.nd (i := 2) (j := 3) rfl rfl (by decide) rfl rfl (pC' (nCall (ps := ["piece"]) (g := m_own_block_in) h_own_block_in (hd.glo 17 rfl) bd_eqv hr (by decide) (aC' (nV 1) a_nil)) (pC' (nCall (ps := ["piece"]) (g := m_goes_in) h_goes_in (hd.glo 20 rfl) bd_eqv hr (by decide) (aC' (nV 1) a_nil)) p_nil)) rfl rfl) (q_cons (q_par3 ok sc.nd (i := 4) (j := 5) (l := 6) rfl rfl rfl (by decide) (by decide) (by decide) rfl rfl rfl (pC' (nTup (aC' (nDiv ok (nIx ok (nV 2) (r_int)) (r_int)) (aC' (nDiv ok (nIx ok (nV 2) (r_int)) (r_int)) a_nil))) (pC' (nTup (aC' (nDiv ok (nIx ok (nV 3) (r_int)) (r_int)) (aC' (nDiv ok (nIx ok (nV 3) (r_int)) (r_int)) a_nil))) (pC' (r_sym (c := .tied) rfl) p_nil))) rfl rfl) (q_cons (q_if (nEqT ok (nV 4) (nV 5)) (q_cons (sSet' 6 (r_sym (c := .cut) rfl) sc.nd) (q_one (sSet' 5 (r_if (nEqT ok (nMod ok (nIx ok (nV 1) (r_int)) (r_int)) (r_int)) (nTup (aC' (nIx ok (nV 4) (r_int)) (aC' (nAdd ok (nIx ok (nV 4) (r_int)) (nCall (ps := ["number"]) (g := m_outward) h_outward (hd.glo 19 rfl) bd_eqv hr (by decide) (aC' (nIx ok (nV 1) (r_int)) a_nil))) a_nil))) (nTup (aC' (nAdd ok (nIx ok (nV 4) (r_int)) (nCall (ps := ["number"]) (g := m_outward) h_outward (hd.glo 19 rfl) bd_eqv hr (by decide) (aC' (nIx ok (nV 1) (r_int)) a_nil))) (aC' (nIx ok (nV 4) (r_int)) a_nil)))) sc.nd))) q_nil) (q_cons (q_if (w_or (t_not (nCh_LeI_LtIT (r_int) (nIx ok (nV 5) (r_int)) (nIx ok (nV 0) (r_int)))) (pw_or1 (t_not (nCh_LeI_LtIT (r_int) (nIx ok (nV 5) (r_int)) (nIx ok (nV 0) (r_int)))))).pt (q_one (q_ret (r_non))) q_nil) (q_one (q_ret (nTup (aC' (nTup (aC' (nMin2 ok (hd.free 88 rfl) (nV 4) (nV 5)) (aC' (nMax2 ok (hd.free 89 rfl) (nV 4) (nV 5)) a_nil))) (aC' (nV 6) a_nil)))))))))
theorem ok_tie_in {P : Program} {w : World} {K : PySem.W.Frag} {mg : PySem.Str → Option Value} {base : Heap} (hd : Hd K mg) (h_outward : Has P w K mg base ("outward", none) 1 ["number"] (spF (bd0 K w) 1 m_outward)) (h_goes_in : Has P w K mg base ("goes_in", none) 2 ["piece"] (spF (bd0 K w) 1 m_goes_in)) (h_own_block_in : Has P w K mg base ("own_block_in", none) 1 ["piece"] (spF (bd0 K w) 1 m_own_block_in)) : Has P w K mg base d_tie_in.at_ 3 ["floor", "piece"] (spF (bd0 K w) 2 m_tie_in) := has_fn hd 24 rfl sc_tie_in rfl (fun Fn => FunD.bindsN Fn fun _ _ _ _ _ _ us hl => match us, hl with | [_, _], _ => rfl) (by_tie_in hd h_outward h_goes_in h_own_block_in)
theorem sc_has_cell : FnScope ["floor", "cell"] ["floor", "cell"] d_has_cell.scope := ⟨rfl, rfl, rfl, by decide +kernel, rfl, by decide +kernel, by decide +kernel⟩
theorem by_has_cell {P : Program} {w : World} {K : PySem.W.Frag} {mg : PySem.Str → Option Value} {base : Heap} (hd : Hd K mg) : Body P w K mg base ["floor", "cell"] d_has_cell 0 b_has_cell := fun f cdv A outer s F H E ok hr =>
  have sc := sc_has_cell
  (q_one (q_ret ((r_and (nCh_LeI_LtI (r_int) (nIx ok (nV 1) (r_int)) (nMul ok (r_int) (nIx ok (nV 0) (r_int)))) (pe_one (nCh_LeI_LtI (r_int) (nIx ok (nV 1) (r_int)) (nMul ok (r_int) (nIx ok (nV 0) (r_int)))))))))
theorem ok_has_cell {P : Program} {w : World} {K : PySem.W.Frag} {mg : PySem.Str → Option Value} {base : Heap} (hd : Hd K mg) : Has P w K mg base d_has_cell.at_ 1 ["floor", "cell"] (spF (bd0 K w) 2 m_has_cell) := has_fn hd 25 rfl sc_has_cell rfl (fun Fn => FunD.bindsN Fn fun _ _ _ _ _ _ us hl => match us, hl with | [_, _], _ => rfl) (by_has_cell hd)
theorem sc_counted : FnScope ["pieces", "found", "piece", "cell"] ["pieces"] d_counted.scope := ⟨rfl, rfl, rfl, by decide +kernel, rfl, by decide +kernel, by decide +kernel⟩
theorem by_counted {P : Program} {w : World} {K : PySem.W.Frag} {mg : PySem.Str → Option Value} {base : Heap} (hd : Hd K mg) (h_cells_in : Has P w K mg base ("cells_in", none) 2 ["piece"] (spF (bd0 K w) 1 m_cells_in)) : Body P w K mg base ["pieces", "found", "piece", "cell"] d_counted 2 b_counted := fun f cdv A outer s F H E ok hr =>
  have sc := sc_counted
  (q_cons (sNewD' 1 sc.nd) (q_cons (sFor' PassesOwn.never ok (i_of ok (nV 0)) (gN 2 sc.nd) (q_one (sFor' PassesOwn.never ok (i_of ok (nCall (ps := ["piece"]) (g := m_cells_in) h_cells_in (hd.glo 15 rfl) bd_eqv hr (by decide) (aC' (nV 2) a_nil))) (gN 3 sc.nd) (q_one (sPut' 1 ok (nW 1) (nV 3) (nAdd ok (nPkGet 1 ok (nW 1) (nV 3) (r_int)) (r_int))))))) (q_one (q_ret (nV 1)))))
theorem ok_counted {P : Program} {w : World} {K : PySem.W.Frag} {mg : PySem.Str → Option Value} {base : Heap} (hd : Hd K mg) (h_cells_in : Has P w K mg base ("cells_in", none) 2 ["piece"] (spF (bd0 K w) 1 m_cells_in)) : Has P w K mg base d_counted.at_ 3 ["pieces"] (spF (bd0 K w) 1 m_counted) := has_fn hd 26 rfl sc_counted rfl (fun Fn => FunD.bindsN Fn fun _ _ _ _ _ _ us hl => match us, hl with | [_], _ => rfl) (by_counted hd h_cells_in)
theorem sc_is_laying_in : FnScope ["floor", "thing", "known", "cell", "one"] ["floor", "thing"] d_is_laying_in.scope := ⟨rfl, rfl, rfl, by decide +kernel, rfl, by decide +kernel, by decide +kernel⟩
theorem by_is_laying_in {P : Program} {w : World} {K : PySem.W.Frag} {mg : PySem.Str → Option Value} {base : Heap} (hd : Hd K mg) (h_has_cell : Has P w K mg base ("has_cell", none) 1 ["floor", "cell"] (spF (bd0 K w) 2 m_has_cell)) (h_counted : Has P w K mg base ("counted", none) 3 ["pieces"] (spF (bd0 K w) 1 m_counted)) (h_ascends : Has P w K mg base ("ascends", none) 1 ["row"] (spF (bd0 K w) 1 m_ascends)) (h_is_piece : Has P w K mg base ("is_piece", none) 3 ["thing"] (spF (bd0 K w) 1 m_is_piece)) : Body P w K mg base ["floor", "thing", "known", "cell", "one"] d_is_laying_in 3 b_is_laying_in := fun f cdv A outer s F H E ok hr =>
  have sc := sc_is_laying_in
  (q_cons (q_if (w_or (t_not (nTest (nIsTup ok (hd.free 80 rfl) (hd.free 81 rfl) (nV 1)))) (pw_or1 (nNeT ok (nLen ok (hd.free 79 rfl) (nV 1)) (nMul ok (nMul ok (r_int) (nIx ok (nV 0) (r_int))) (nIx ok (nV 0) (r_int)))))).pt (q_one (q_ret (r_bl))) q_nil) (q_cons (q_if (w_or (t_not (nTest (nAll ok (hd.free 82 rfl) (r_lc ok sc.nd (i_of ok (nV 1)) (blkOk_by (own := [("one", 4)]) rfl) rfl rfl (fun _ _ _ _ _ => (gN 4 sc.nd)) (fun _ _ _ _ _ => pts_nil) (fun _ _ _ _ _ => (nCall (ps := ["thing"]) (g := m_is_piece) h_is_piece (hd.glo 13 rfl) bd_eqv (by exact hr) (by decide) (aC' (nV 4) a_nil))) (fun _ => rfl))))) (pw_or1 (t_not (nTest (nCall (ps := ["row"]) (g := m_ascends) h_ascends (hd.glo 4 rfl) bd_eqv hr (by decide) (aC' (nV 1) a_nil)))))).pt (q_one (q_ret (r_bl))) q_nil) (q_cons (sSet' 2 (nCall (ps := ["pieces"]) (g := m_counted) h_counted (hd.glo 26 rfl) bd_eqv hr (by decide) (aC' (nV 1) a_nil)) sc.nd) (q_one (q_ret ((r_and (nEq ok (nLen ok (hd.free 79 rfl) (nV 2)) (nMul ok (r_int) (nLen ok (hd.free 79 rfl) (nV 1)))) (pe_one (nAll ok (hd.free 82 rfl) (r_lc ok sc.nd (i_of ok (nV 2)) (blkOk_by (own := [("cell", 3)]) rfl) rfl rfl (fun _ _ _ _ _ => (gN 3 sc.nd)) (fun _ _ _ _ _ => pts_nil) (fun _ _ _ _ _ => (nCall (ps := ["floor", "cell"]) (g := m_has_cell) h_has_cell (hd.glo 25 rfl) bd_eqv (by exact hr) (by decide) (aC' (nV 0) (aC' (nV 3) a_nil)))) (fun _ => rfl)))))))))))
theorem ok_is_laying_in {P : Program} {w : World} {K : PySem.W.Frag} {mg : PySem.Str → Option Value} {base : Heap} (hd : Hd K mg) (h_has_cell : Has P w K mg base ("has_cell", none) 1 ["floor", "cell"] (spF (bd0 K w) 2 m_has_cell)) (h_counted : Has P w K mg base ("counted", none) 3 ["pieces"] (spF (bd0 K w) 1 m_counted)) (h_ascends : Has P w K mg base ("ascends", none) 1 ["row"] (spF (bd0 K w) 1 m_ascends)) (h_is_piece : Has P w K mg base ("is_piece", none) 3 ["thing"] (spF (bd0 K w) 1 m_is_piece)) : Has P w K mg base d_is_laying_in.at_ 4 ["floor", "thing"] (spF (bd0 K w) 2 m_is_laying_in) := has_fn hd 27 rfl sc_is_laying_in rfl (fun Fn => FunD.bindsN Fn fun _ _ _ _ _ _ us hl => match us, hl with | [_, _], _ => rfl) (by_is_laying_in hd h_has_cell h_counted h_ascends h_is_piece)
theorem sc_sure_laying : FnScope ["floor", "laying", "own"] ["floor", "laying"] d_sure_laying.scope := ⟨rfl, rfl, rfl, by decide +kernel, rfl, by decide +kernel, by decide +kernel⟩
theorem by_sure_laying {P : Program} {w : World} {K : PySem.W.Frag} {mg : PySem.Str → Option Value} {base : Heap} (hd : Hd K mg) (h_is_laying_in : Has P w K mg base ("is_laying_in", none) 4 ["floor", "thing"] (spF (bd0 K w) 2 m_is_laying_in)) (h_tupled : Has P w K mg base ("tupled", none) 6 ["value"] (spF (bd0 K w) 1 (m_tupled 6))) : Body P w K mg base ["floor", "laying", "own"] d_sure_laying 6 b_sure_laying := fun f cdv A outer s F H E ok hr =>
  have sc := sc_sure_laying
  (q_cons (sSet' 2 (nCall (ps := ["value"]) (g := m_tupled 6) h_tupled (hd.glo 3 rfl) bd_eqv hr (by decide) (aC' (nV 1) a_nil)) sc.nd) (q_cons (q_if (t_not (nTest (nCall (ps := ["floor", "thing"]) (g := m_is_laying_in) h_is_laying_in (hd.glo 27 rfl) bd_eqv hr (by decide) (aC' (nV 0) (aC' (nV 2) a_nil))))) (q_one sNo') q_nil) (q_one (q_ret (nV 2)))))
theorem ok_sure_laying {P : Program} {w : World} {K : PySem.W.Frag} {mg : PySem.Str → Option Value} {base : Heap} (hd : Hd K mg) (h_is_laying_in : Has P w K mg base ("is_laying_in", none) 4 ["floor", "thing"] (spF (bd0 K w) 2 m_is_laying_in)) (h_tupled : Has P w K mg base ("tupled", none) 6 ["value"] (spF (bd0 K w) 1 (m_tupled 6))) : Has P w K mg base d_sure_laying.at_ 7 ["floor", "laying"] (spF (bd0 K w) 2 m_sure_laying) := has_fn hd 28 rfl sc_sure_laying rfl (fun Fn => FunD.bindsN Fn fun _ _ _ _ _ _ us hl => match us, hl with | [_, _], _ => rfl) (by_sure_laying hd h_is_laying_in h_tupled)
theorem sc_signs_in : FnScope ["told", "found", "piece"] ["told"] d_signs_in.scope := ⟨rfl, rfl, rfl, by decide +kernel, rfl, by decide +kernel, by decide +kernel⟩
theorem by_signs_in {P : Program} {w : World} {K : PySem.W.Frag} {mg : PySem.Str → Option Value} {base : Heap} (hd : Hd K mg) (h_sign_in : Has P w K mg base ("sign_in", none) 2 ["piece"] (spF (bd0 K w) 1 m_sign_in)) (h_goes_in : Has P w K mg base ("goes_in", none) 2 ["piece"] (spF (bd0 K w) 1 m_goes_in)) (h_own_block_in : Has P w K mg base ("own_block_in", none) 1 ["piece"] (spF (bd0 K w) 1 m_own_block_in)) : Body P w K mg base ["told", "found", "piece"] d_signs_in 2 b_signs_in := fun f cdv A outer s F H E ok hr =>
  have sc := sc_signs_in
  (q_cons (sNewL' 1 a_nil sc.nd) (q_cons (sFor' PassesOwn.never ok (i_of ok (nV 0)) (gN 2 sc.nd) (q_one (sExt' 1 (nW 1) (r_lst (aC' (nTup (aC' (nCall (ps := ["piece"]) (g := m_own_block_in) h_own_block_in (hd.glo 17 rfl) bd_eqv hr (by decide) (aC' (nV 2) a_nil)) (aC' (nCall (ps := ["piece"]) (g := m_sign_in) h_sign_in (hd.glo 18 rfl) bd_eqv hr (by decide) (aC' (nV 2) a_nil)) a_nil))) (aC' (nTup (aC' (nCall (ps := ["piece"]) (g := m_goes_in) h_goes_in (hd.glo 20 rfl) bd_eqv hr (by decide) (aC' (nV 2) a_nil)) (aC' (nCall (ps := ["piece"]) (g := m_sign_in) h_sign_in (hd.glo 18 rfl) bd_eqv hr (by decide) (aC' (nV 2) a_nil)) a_nil))) a_nil)))))) (q_one (q_ret (nV 1)))))
theorem ok_signs_in {P : Program} {w : World} {K : PySem.W.Frag} {mg : PySem.Str → Option Value} {base : Heap} (hd : Hd K mg) (h_sign_in : Has P w K mg base ("sign_in", none) 2 ["piece"] (spF (bd0 K w) 1 m_sign_in)) (h_goes_in : Has P w K mg base ("goes_in", none) 2 ["piece"] (spF (bd0 K w) 1 m_goes_in)) (h_own_block_in : Has P w K mg base ("own_block_in", none) 1 ["piece"] (spF (bd0 K w) 1 m_own_block_in)) : Has P w K mg base d_signs_in.at_ 3 ["told"] (spF (bd0 K w) 1 m_signs_in) := has_fn hd 29 rfl sc_signs_in rfl (fun Fn => FunD.bindsN Fn fun _ _ _ _ _ _ us hl => match us, hl with | [_], _ => rfl) (by_signs_in hd h_sign_in h_goes_in h_own_block_in)
theorem sc_words_in : FnScope ["floor", "told", "found", "piece", "own"] ["floor", "told"] d_words_in.scope := ⟨rfl, rfl, rfl, by decide +kernel, rfl, by decide +kernel, by decide +kernel⟩
theorem by_words_in {P : Program} {w : World} {K : PySem.W.Frag} {mg : PySem.Str → Option Value} {base : Heap} (hd : Hd K mg) (h_set_of : Has P w K mg base ("set_of", none) 1 ["row"] (spF (bd0 K w) 1 m_set_of)) (h_tie_in : Has P w K mg base ("tie_in", none) 3 ["floor", "piece"] (spF (bd0 K w) 2 m_tie_in)) : Body P w K mg base ["floor", "told", "found", "piece", "own"] d_words_in 3 b_words_in := fun f cdv A outer s F H E ok hr =>
  have sc := sc_words_in
  (q_cons (q_setLc ok sc.nd (i := 2) rfl rfl (sw_true rfl rfl rfl rfl) (i_of ok (nV 1)) (blkOk_by (own := [("piece", 3)]) rfl) rfl rfl (fun _ _ _ _ _ => (gN 3 sc.nd)) (fun _ _ _ _ _ => pts_nil) (fun _ _ _ _ _ => (nCall (ps := ["floor", "piece"]) (g := m_tie_in) h_tie_in (hd.glo 24 rfl) bd_eqv (by exact hr) (by decide) (aC' (nV 0) (aC' (nV 3) a_nil)))) (fun _ => rfl)) (q_one (q_ret (nCall (ps := ["row"]) (g := m_set_of) h_set_of (hd.glo 5 rfl) bd_eqv hr (by decide) (aC' (r_lc ok sc.nd (i_of ok (nV 2)) (blkOk_by (own := [("own", 4)]) rfl) rfl rfl (fun _ _ _ _ _ => (gN 4 sc.nd)) (fun _ _ _ _ _ => pts_one (r_notNT (nV 4))) (fun _ _ _ _ _ => (nV 4)) (fun _ => rfl)) a_nil)))))
theorem ok_words_in {P : Program} {w : World} {K : PySem.W.Frag} {mg : PySem.Str → Option Value} {base : Heap} (hd : Hd K mg) (h_set_of : Has P w K mg base ("set_of", none) 1 ["row"] (spF (bd0 K w) 1 m_set_of)) (h_tie_in : Has P w K mg base ("tie_in", none) 3 ["floor", "piece"] (spF (bd0 K w) 2 m_tie_in)) : Has P w K mg base d_words_in.at_ 4 ["floor", "told"] (spF (bd0 K w) 2 m_words_in) := has_fn hd 30 rfl sc_words_in rfl (fun Fn => FunD.bindsN Fn fun _ _ _ _ _ _ us hl => match us, hl with | [_, _], _ => rfl) (by_words_in hd h_set_of h_tie_in)
theorem sc_Rules_agrees : FnScope ["self", "block", "sign"] ["self", "block", "sign"] d_Rules_agrees.scope := ⟨rfl, rfl, rfl, by decide +kernel, rfl, by decide +kernel, by decide +kernel⟩
theorem by_Rules_agrees {P : Program} {w : World} {K : PySem.W.Frag} {mg : PySem.Str → Option Value} {base : Heap} (hd : Hd K mg) : Body P w K mg base ["self", "block", "sign"] d_Rules_agrees 0 b_Rules_agrees := fun f cdv A outer s F H E ok hr =>
  have sc := sc_Rules_agrees
  (q_one (q_ret (nEq ok (nGet ok (nFld ok (hd.clz 97 112 113 114 115 rfl rfl rfl rfl rfl) 0 (nV 0)) (nV 1) (nV 2)) (nV 2))))
theorem ok_Rules_agrees {P : Program} {w : World} {K : PySem.W.Frag} {mg : PySem.Str → Option Value} {base : Heap} (hd : Hd K mg) : Has P w K mg base d_Rules_agrees.at_ 1 ["self", "block", "sign"] (spF (bd0 K w) 3 m_Rules_agrees) := has_fn hd 32 rfl sc_Rules_agrees rfl (fun Fn => FunD.bindsN Fn fun _ _ _ _ _ _ us hl => match us, hl with | [_, _, _], _ => rfl) (by_Rules_agrees hd)
theorem sc_Rules_lets : FnScope ["self", "face", "height"] ["self", "face", "height"] d_Rules_lets.scope := ⟨rfl, rfl, rfl, by decide +kernel, rfl, by decide +kernel, by decide +kernel⟩
theorem by_Rules_lets {P : Program} {w : World} {K : PySem.W.Frag} {mg : PySem.Str → Option Value} {base : Heap} (hd : Hd K mg) : Body P w K mg base ["self", "face", "height"] d_Rules_lets 0 b_Rules_lets := fun f cdv A outer s F H E ok hr =>
  have sc := sc_Rules_lets
  (q_one (q_ret ((r_and (nLeI ok (nGet ok (nFld ok (hd.clz 97 112 113 114 115 rfl rfl rfl rfl rfl) 2 (nV 0)) (nV 1) (nV 2)) (nV 2)) (pe_one (nEq ok (nGet ok (nFld ok (hd.clz 97 112 113 114 115 rfl rfl rfl rfl rfl) 3 (nV 0)) (nV 1) (nV 2)) (nV 2)))))))
theorem ok_Rules_lets {P : Program} {w : World} {K : PySem.W.Frag} {mg : PySem.Str → Option Value} {base : Heap} (hd : Hd K mg) : Has P w K mg base d_Rules_lets.at_ 1 ["self", "face", "height"] (spF (bd0 K w) 3 m_Rules_lets) := has_fn hd 33 rfl sc_Rules_lets rfl (fun Fn => FunD.bindsN Fn fun _ _ _ _ _ _ us hl => match us, hl with | [_, _, _], _ => rfl) (by_Rules_lets hd)
theorem sc_crossed_face : FnScope ["face"] ["face"] d_crossed_face.scope := ⟨rfl, rfl, rfl, by decide +kernel, rfl, by decide +kernel, by decide +kernel⟩
theorem by_crossed_face {P : Program} {w : World} {K : PySem.W.Frag} {mg : PySem.Str → Option Value} {base : Heap} (hd : Hd K mg) : Body P w K mg base ["face"] d_crossed_face 0 b_crossed_face := fun f cdv A outer s F H E ok hr =>
  have sc := sc_crossed_face
  (q_one (q_ret (r_if (nEqT ok (nLen ok (hd.free 79 rfl) (nV 0)) (r_int)) (nV 0) (nTup (aC' (nIx ok (nV 0) (r_int)) (aC' (nIx ok (nV 0) (r_int)) (aC' (nIx ok (nV 0) (r_int)) a_nil)))))))
theorem ok_crossed_face {P : Program} {w : World} {K : PySem.W.Frag} {mg : PySem.Str → Option Value} {base : Heap} (hd : Hd K mg) : Has P w K mg base d_crossed_face.at_ 1 ["face"] (spF (bd0 K w) 1 m_crossed_face) := has_fn hd 35 rfl sc_crossed_face rfl (fun Fn => FunD.bindsN Fn fun _ _ _ _ _ _ us hl => match us, hl with | [_], _ => rfl) (by_crossed_face hd)
theorem sc_dot_steps : FnScope ["floor", "rules", "front", "i", "j", "dots", "inners", "outer", "last", "found", "height", "blocks", "is_flat", "block", "sign"] ["floor", "rules", "front", "i", "j"] d_dot_steps.scope := ⟨rfl, rfl, rfl, by decide +kernel, rfl, by decide +kernel, by decide +kernel⟩
theorem by_dot_steps {P : Program} {w : World} {K : PySem.W.Frag} {mg : PySem.Str → Option Value} {base : Heap} (hd : Hd K mg) (h_Rules_agrees : Has P w K mg base ("Rules", some "agrees") 1 ["self", "block", "sign"] (spF (bd0 K w) 3 m_Rules_agrees)) (h_Rules_lets : Has P w K mg base ("Rules", some "lets") 1 ["self", "face", "height"] (spF (bd0 K w) 3 m_Rules_lets)) : Body P w K mg base ["floor", "rules", "front", "i", "j", "dots", "inners", "outer", "last", "found", "height", "blocks", "is_flat", "block", "sign"] d_dot_steps 1 b_dot_steps := fun f cdv A outer s F H E ok hr =>
  have sc := sc_dot_steps
  (q_cons (q_unp (nV 2) (gT ok (gC (gN 5 sc.nd) (gC (gN 6 sc.nd) gs_nil))) rfl rfl rfl) (q_cons (q_par3 ok sc.nd (i := 7) (j := 8) (l := 9) rfl rfl rfl (by decide) (by decide) (by decide) rfl rfl rfl (pC' (nTup (aC' (r_int) (aS' ok (nV 6) (aC' (r_int) a_nil)))) (pC' (nSub ok (nIx ok (nV 0) (r_int)) (r_int)) (pL' p_nil))) rfl rfl) (q_cons (sFor' PassesOwn.never ok (i_of ok (nTup (aC' (nSub ok (nIx ok (nV 7) (nV 4)) (r_int)) (aC' (nAdd ok (nIx ok (nV 7) (nV 4)) (r_int)) a_nil)))) (gN 10 sc.nd) (q_cons (q_if (w_or (nNeT ok (nAbs ok (hd.free 87 rfl) (nSub ok (nV 10) (nIx ok (nV 7) (nAdd ok (nV 4) (r_int))))) (r_int)) (pw_or1 (t_not (nTest (nMeth (ps := ["self", "face", "height"]) (g := m_Rules_lets) hd 110 rfl h_Rules_lets rfl (by decide) hi_Rules_lets (fun _ _ h => runF_len h) bd_eqv hr (by decide) ok (hd.clz 97 112 113 114 115 rfl rfl rfl rfl rfl) (nV 1) (aC' (nTup (aC' (r_sym (c := .dot) rfl) (aC' (nV 3) (aC' (nV 4) a_nil)))) (aC' (nV 10) a_nil))))))).pt (q_one q_cont) q_nil) (q_cons (sNewL' 11 (aC' (nTup (aC' (nTup (aC' (nMul ok (r_int) (nV 3)) (aC' (nMul ok (r_int) (nV 4)) a_nil))) (aC' (nSub ok (nV 10) (nIx ok (nV 7) (nV 4))) a_nil))) (aC' (nTup (aC' (nTup (aC' (nMul ok (r_int) (nV 3)) (aC' (nAdd ok (nMul ok (r_int) (nV 4)) (r_int)) a_nil))) (aC' (nSub ok (nV 10) (nIx ok (nV 7) (nAdd ok (nV 4) (r_int)))) a_nil))) a_nil)) sc.nd) (q_cons (q_if (nEqT ok (nV 4) (r_int)) (q_one (sApp' 11 (nW 11) (nTup (aC' (nTup (aC' (nAdd ok (nMul ok (r_int) (nV 3)) (r_int)) (aC' (r_int) a_nil))) (aC' (nV 10) a_nil))))) q_nil) (q_cons (q_if (nEqT ok (nV 4) (nV 8)) (q_one (sApp' 11 (nW 11) (nTup (aC' (nTup (aC' (nAdd ok (nMul ok (r_int) (nV 3)) (r_int)) (aC' (nAdd ok (nMul ok (r_int) (nV 8)) (r_int)) a_nil))) (aC' (nV 10) a_nil))))) q_nil) (q_one (q_if (nTest (nAll ok (hd.free 82 rfl) (r_lc ok sc.nd (i_of ok (nV 11)) (blkOk_by (own := [("block", 13), ("sign", 14)]) rfl) rfl rfl (fun _ _ _ _ _ => (gT ok.blk (gC (gN 13 sc.nd) (gC (gN 14 sc.nd) gs_nil)))) (fun _ _ _ _ _ => pts_nil) (fun _ _ _ _ _ => (nMeth (ps := ["self", "block", "sign"]) (g := m_Rules_agrees) hd 109 rfl h_Rules_agrees rfl (by decide) hi_Rules_agrees (fun _ _ h => runF_len h) bd_eqv (by exact hr) (by decide) ok.blk (hd.clz 97 112 113 114 115 rfl rfl rfl rfl rfl) (nV 1) (aC' (nV 13) (aC' (nV 14) a_nil)))) (fun _ => rfl)))) (q_cons (sSet' 12 ((r_and (nEq ok (nIx ok (nV 5) (nV 4)) (nV 10)) (pe_one (nEq ok (nIx ok (nV 7) (nV 4)) (nIx ok (nV 7) (nAdd ok (nV 4) (r_int))))))) sc.nd) (q_one (sApp' 9 (nW 9) (nTup (aC' (nTup (aC' (nAdd ok (nAdd ok (r_take ok (nV 5) (nV 4)) (nTup (aC' (nV 10) a_nil))) (r_drop ok (nV 5) (nAdd ok (nV 4) (r_int)))) (aC' (nV 6) a_nil))) (aC' (nV 12) (aC' (nTup (aC' (nTup (aC' (nSub ok (nV 3) (r_int)) (aC' (nV 4) a_nil))) (aC' (nTup (aC' (nV 3) (aC' (nV 4) a_nil))) a_nil))) a_nil))))))) q_nil))))))) (q_one (q_ret (nV 9))))))
theorem ok_dot_steps {P : Program} {w : World} {K : PySem.W.Frag} {mg : PySem.Str → Option Value} {base : Heap} (hd : Hd K mg) (h_Rules_agrees : Has P w K mg base ("Rules", some "agrees") 1 ["self", "block", "sign"] (spF (bd0 K w) 3 m_Rules_agrees)) (h_Rules_lets : Has P w K mg base ("Rules", some "lets") 1 ["self", "face", "height"] (spF (bd0 K w) 3 m_Rules_lets)) : Has P w K mg base d_dot_steps.at_ 2 ["floor", "rules", "front", "i", "j"] (spF (bd0 K w) 5 m_dot_steps) := has_fn hd 36 rfl sc_dot_steps rfl (fun Fn => FunD.bindsN Fn fun _ _ _ _ _ _ us hl => match us, hl with | [_, _, _, _, _], _ => rfl) (by_dot_steps hd h_Rules_agrees h_Rules_lets)
theorem sc_inner_steps : FnScope ["floor", "rules", "front", "i", "j", "dots", "inners", "south", "north", "found", "height", "is_flat"] ["floor", "rules", "front", "i", "j"] d_inner_steps.scope := ⟨rfl, rfl, rfl, by decide +kernel, rfl, by decide +kernel, by decide +kernel⟩
theorem by_inner_steps {P : Program} {w : World} {K : PySem.W.Frag} {mg : PySem.Str → Option Value} {base : Heap} (hd : Hd K mg) (h_Rules_agrees : Has P w K mg base ("Rules", some "agrees") 1 ["self", "block", "sign"] (spF (bd0 K w) 3 m_Rules_agrees)) (h_Rules_lets : Has P w K mg base ("Rules", some "lets") 1 ["self", "face", "height"] (spF (bd0 K w) 3 m_Rules_lets)) : Body P w K mg base ["floor", "rules", "front", "i", "j", "dots", "inners", "south", "north", "found", "height", "is_flat"] d_inner_steps 1 b_inner_steps := fun f cdv A outer s F H E ok hr =>
  have sc := sc_inner_steps
  (q_cons (q_unp (nV 2) (gT ok (gC (gN 5 sc.nd) (gC (gN 6 sc.nd) gs_nil))) rfl rfl rfl) (q_cons (q_par3 ok sc.nd (i := 7) (j := 8) (l := 9) rfl rfl rfl (by decide) (by decide) (by decide) rfl rfl rfl (pC' (nIx ok (nV 5) (nV 4)) (pC' (nIx ok (nV 5) (nAdd ok (nV 4) (r_int))) (pL' p_nil))) rfl rfl) (q_cons (sFor' PassesOwn.never ok (i_of ok (r_if (nEqT ok (nV 3) (nSub ok (nIx ok (nV 0) (r_int)) (r_int))) (nTup (aC' (r_int) a_nil)) (nTup (aC' (nSub ok (nV 7) (r_int)) (aC' (nAdd ok (nV 7) (r_int)) a_nil))))) (gN 10 sc.nd) (q_cons (q_if (w_or (nNeT ok (nAbs ok (hd.free 87 rfl) (nSub ok (nV 10) (nV 7))) (r_int)) (pw_or1 (nNeT ok (nAbs ok (hd.free 87 rfl) (nSub ok (nV 10) (nV 8))) (r_int)))).pt (q_one q_cont) q_nil) (q_cons (q_if (w_and (nLtT ok (nV 3) (nSub ok (nIx ok (nV 0) (r_int)) (r_int))) (pw_and1 (t_not (nTest (nMeth (ps := ["self", "face", "height"]) (g := m_Rules_lets) hd 110 rfl h_Rules_lets rfl (by decide) hi_Rules_lets (fun _ _ h => runF_len h) bd_eqv hr (by decide) ok (hd.clz 97 112 113 114 115 rfl rfl rfl rfl rfl) (nV 1) (aC' (nTup (aC' (r_sym (c := .inner) rfl) (aC' (nV 3) (aC' (nV 4) a_nil)))) (aC' (nV 10) a_nil))))))).pt (q_one q_cont) q_nil) (q_cons (q_if (t_not (nTest (nMeth (ps := ["self", "block", "sign"]) (g := m_Rules_agrees) hd 109 rfl h_Rules_agrees rfl (by decide) hi_Rules_agrees (fun _ _ h => runF_len h) bd_eqv hr (by decide) ok (hd.clz 97 112 113 114 115 rfl rfl rfl rfl rfl) (nV 1) (aC' (nTup (aC' (nAdd ok (nMul ok (r_int) (nV 3)) (r_int)) (aC' (nAdd ok (nMul ok (r_int) (nV 4)) (r_int)) a_nil))) (aC' (nSub ok (nV 7) (nV 10)) a_nil))))) (q_one q_cont) q_nil) (q_one (q_if (nTest (nMeth (ps := ["self", "block", "sign"]) (g := m_Rules_agrees) hd 109 rfl h_Rules_agrees rfl (by decide) hi_Rules_agrees (fun _ _ h => runF_len h) bd_eqv hr (by decide) ok (hd.clz 97 112 113 114 115 rfl rfl rfl rfl rfl) (nV 1) (aC' (nTup (aC' (nAdd ok (nMul ok (r_int) (nV 3)) (r_int)) (aC' (nAdd ok (nMul ok (r_int) (nV 4)) (r_int)) a_nil))) (aC' (nSub ok (nV 8) (nV 10)) a_nil)))) (q_cons (sSet' 11 ((r_and (nEq ok (nV 7) (nV 8)) (pe_one (nEq ok (nIx ok (nV 6) (nV 4)) (nV 10))))) sc.nd) (q_one (sApp' 9 (nW 9) (nTup (aC' (nTup (aC' (nV 5) (aC' (nAdd ok (nAdd ok (r_take ok (nV 6) (nV 4)) (nTup (aC' (nV 10) a_nil))) (r_drop ok (nV 6) (nAdd ok (nV 4) (r_int)))) a_nil))) (aC' (nV 11) (aC' (nTup (aC' (nTup (aC' (nV 3) (aC' (nV 4) a_nil))) (aC' (nTup (aC' (nV 3) (aC' (nAdd ok (nV 4) (r_int)) a_nil))) a_nil))) a_nil))))))) q_nil)))))) (q_one (q_ret (nV 9))))))
theorem ok_inner_steps {P : Program} {w : World} {K : PySem.W.Frag} {mg : PySem.Str → Option Value} {base : Heap} (hd : Hd K mg) (h_Rules_agrees : Has P w K mg base ("Rules", some "agrees") 1 ["self", "block", "sign"] (spF (bd0 K w) 3 m_Rules_agrees)) (h_Rules_lets : Has P w K mg base ("Rules", some "lets") 1 ["self", "face", "height"] (spF (bd0 K w) 3 m_Rules_lets)) : Has P w K mg base d_inner_steps.at_ 2 ["floor", "rules", "front", "i", "j"] (spF (bd0 K w) 5 m_inner_steps) := has_fn hd 37 rfl sc_inner_steps rfl (fun Fn => FunD.bindsN Fn fun _ _ _ _ _ _ us hl => match us, hl with | [_, _, _, _, _], _ => rfl) (by_inner_steps hd h_Rules_agrees h_Rules_lets)
theorem sc_gone_on : FnScope ["floor", "rules", "now", "step", "i", "j", "weight", "found", "front", "number", "later", "is_flat", "tie", "more"] ["floor", "rules", "now", "step", "i", "j", "weight"] d_gone_on.scope := ⟨rfl, rfl, rfl, by decide +kernel, rfl, by decide +kernel, by decide +kernel⟩
theorem by_gone_on {P : Program} {w : World} {K : PySem.W.Frag} {mg : PySem.Str → Option Value} {base : Heap} (hd : Hd K mg) (TB : Tb P w K mg base 2) : Body P w K mg base ["floor", "rules", "now", "step", "i", "j", "weight", "found", "front", "number", "later", "is_flat", "tie", "more"] d_gone_on 2 b_gone_on := fun f cdv A outer s F H E ok hr =>
  have sc := sc_gone_on
  (q_cons (sNewD' 7 sc.nd) (q_cons (sFor' PassesOwn.never ok (iItems' (nV 2)) (gT ok (gC (gN 8 sc.nd) (gC (gN 9 sc.nd) gs_nil))) (q_one (sFor' PassesOwn.never ok (i_of ok (nCallV 3 TB (by decide) bd_eqv hr (aC' (nV 0) (aC' (nV 1) (aC' (nV 8) (aC' (nV 4) (aC' (nV 5) a_nil))))))) (gT ok (gC (gN 10 sc.nd) (gC (gN 11 sc.nd) (gC (gN 12 sc.nd) gs_nil)))) (q_cons (sSet' 13 (r_if (w_and (nTest (nV 11)) (pw_and1 (nNotInT ok (nV 12) (nFld ok (hd.clz 97 112 113 114 115 rfl rfl rfl rfl rfl) 1 (nV 1))))).pt (nMul ok (nV 9) (nV 6)) (nV 9)) sc.nd) (q_one (sPut' 7 ok (nW 7) (nV 10) (nAdd ok (nPkGet 7 ok (nW 7) (nV 10) (r_int)) (nV 13)))))))) (q_one (q_ret (nV 7)))))
theorem ok_gone_on {P : Program} {w : World} {K : PySem.W.Frag} {mg : PySem.Str → Option Value} {base : Heap} (hd : Hd K mg) (TB : Tb P w K mg base 2) : Has P w K mg base d_gone_on.at_ 3 ["floor", "rules", "now", "step", "i", "j", "weight"] (spF (bd0 K w) 7 m_gone_on) := has_fn hd 38 rfl sc_gone_on rfl (fun Fn => FunD.bindsN Fn fun _ _ _ _ _ _ us hl => match us, hl with | [_, _, _, _, _, _, _], _ => rfl) (by_gone_on hd TB)
theorem sc_rules_in : FnScope ["floor", "told", "signs", "words", "block", "sign", "known", "tie", "_"] ["floor", "told"] d_rules_in.scope := ⟨rfl, rfl, rfl, by decide +kernel, rfl, by decide +kernel, by decide +kernel⟩
theorem by_rules_in {P : Program} {w : World} {K : PySem.W.Frag} {mg : PySem.Str → Option Value} {base : Heap} (hd : Hd K mg) (h_set_of : Has P w K mg base ("set_of", none) 1 ["row"] (spF (bd0 K w) 1 m_set_of)) (h_signs_in : Has P w K mg base ("signs_in", none) 3 ["told"] (spF (bd0 K w) 1 m_signs_in)) (h_words_in : Has P w K mg base ("words_in", none) 4 ["floor", "told"] (spF (bd0 K w) 2 m_words_in)) (hI : HasI P w K mg base 1) : Body P w K mg base ["floor", "told", "signs", "words", "block", "sign", "known", "tie", "_"] d_rules_in 4 b_rules_in := fun f cdv A outer s F H E ok hr =>
  have sc := sc_rules_in
  (q_cons (q_par2 ok sc.nd (i := 2) (j := 3) rfl rfl (by decide) rfl rfl (pD' (pC' (nCall (ps := ["floor", "told"]) (g := m_words_in) h_words_in (hd.glo 30 rfl) bd_eqv hr (by decide) (aC' (nV 0) (aC' (nV 1) a_nil))) p_nil)) rfl rfl) (q_cons (sFor' PassesOwn.never ok (i_of ok (nCall (ps := ["told"]) (g := m_signs_in) h_signs_in (hd.glo 29 rfl) bd_eqv hr (by decide) (aC' (nV 1) a_nil))) (gT ok (gC (gN 4 sc.nd) (gC (gN 5 sc.nd) gs_nil))) (q_one (q_if (nNeT ok (nPkSd 2 ok (nW 2) (nV 4) (nV 5)) (nV 5)) (q_one (q_ret (r_non))) q_nil))) (q_cons (sSet' 6 (nCall (ps := ["row"]) (g := m_set_of) h_set_of (hd.glo 5 rfl) bd_eqv hr (by decide) (aC' (r_lc ok sc.nd (i_of ok (nV 3)) (blkOk_by (own := [("tie", 7), ("_", 8)]) rfl) rfl rfl (fun _ _ _ _ _ => (gT ok.blk (gC (gN 7 sc.nd) (gC (gN 8 sc.nd) gs_nil)))) (fun _ _ _ _ _ => pts_nil) (fun _ _ _ _ _ => (nV 7)) (fun _ => rfl)) a_nil)) sc.nd) (q_one (q_ret (r_if (nEqT ok (nLen ok (hd.free 79 rfl) (nV 6)) (nLen ok (hd.free 79 rfl) (nV 3))) (nRules hd (i1 := 98) (i2 := 102) rfl rfl hI rfl rfl bd_eqv hr (by decide) (nV 2) (nV 6)) (r_non)))))))
theorem ok_rules_in {P : Program} {w : World} {K : PySem.W.Frag} {mg : PySem.Str → Option Value} {base : Heap} (hd : Hd K mg) (h_set_of : Has P w K mg base ("set_of", none) 1 ["row"] (spF (bd0 K w) 1 m_set_of)) (h_signs_in : Has P w K mg base ("signs_in", none) 3 ["told"] (spF (bd0 K w) 1 m_signs_in)) (h_words_in : Has P w K mg base ("words_in", none) 4 ["floor", "told"] (spF (bd0 K w) 2 m_words_in)) (hI : HasI P w K mg base 1) : Has P w K mg base d_rules_in.at_ 5 ["floor", "told"] (spF (bd0 K w) 2 m_rules_in) := has_fn hd 40 rfl sc_rules_in rfl (fun Fn => FunD.bindsN Fn fun _ _ _ _ _ _ us hl => match us, hl with | [_, _], _ => rfl) (by_rules_in hd h_set_of h_signs_in h_words_in hI)
theorem sc_sure_short : FnScope ["floor"] ["floor"] d_sure_short.scope := ⟨rfl, rfl, rfl, by decide +kernel, rfl, by decide +kernel, by decide +kernel⟩
theorem by_sure_short {P : Program} {w : World} {K : PySem.W.Frag} {mg : PySem.Str → Option Value} {base : Heap} (hd : Hd K mg) : Body P w K mg base ["floor"] d_sure_short 0 b_sure_short := fun f cdv A outer s F H E ok hr =>
  have sc := sc_sure_short
  (q_cons (q_if (nGtIT ok (nMinT ok (hd.free 88 rfl) (nV 0)) (nMost hd 96 rfl rfl)) (q_one sNo') q_nil) (q_one (q_ret (nV 0))))
theorem ok_sure_short {P : Program} {w : World} {K : PySem.W.Frag} {mg : PySem.Str → Option Value} {base : Heap} (hd : Hd K mg) : Has P w K mg base d_sure_short.at_ 1 ["floor"] (spF (bd0 K w) 1 m_sure_short) := has_fn hd 42 rfl sc_sure_short rfl (fun Fn => FunD.bindsN Fn fun _ _ _ _ _ _ us hl => match us, hl with | [_], _ => rfl) (by_sure_short hd)
theorem sc_row_in : FnScope ["laying", "_", "piece"] ["laying"] d_row_in.scope := ⟨rfl, rfl, rfl, by decide +kernel, rfl, by decide +kernel, by decide +kernel⟩
theorem by_row_in {P : Program} {w : World} {K : PySem.W.Frag} {mg : PySem.Str → Option Value} {base : Heap} (hd : Hd K mg) (h_own_block_in : Has P w K mg base ("own_block_in", none) 1 ["piece"] (spF (bd0 K w) 1 m_own_block_in)) : Body P w K mg base ["laying", "_", "piece"] d_row_in 1 b_row_in := fun f cdv A outer s F H E ok hr =>
  have sc := sc_row_in
  (q_one (q_ret (nTuple ok (hd.free 81 rfl) (r_lc ok sc.nd (i_of ok (nSorted (.l (.l .i)) ok (hd.free 84 rfl) (by decide) (by decide) (r_lc ok sc.nd (i_of ok (nV 0)) (blkOk_by (own := [("piece", 2)]) rfl) rfl rfl (fun _ _ _ _ _ => (gN 2 sc.nd)) (fun _ _ _ _ _ => pts_nil) (fun _ _ _ _ _ => (nTup (aC' (nCall (ps := ["piece"]) (g := m_own_block_in) h_own_block_in (hd.glo 17 rfl) bd_eqv (by exact hr) (by decide) (aC' (nV 2) a_nil)) (aC' (nV 2) a_nil)))) (fun _ => rfl)))) (blkOk_by (own := [("_", 1), ("piece", 2)]) rfl) rfl rfl (fun _ _ _ _ _ => (gT ok.blk (gC (gN 1 sc.nd) (gC (gN 2 sc.nd) gs_nil)))) (fun _ _ _ _ _ => pts_nil) (fun _ _ _ _ _ => (nV 2)) (fun _ => rfl)))))
theorem ok_row_in {P : Program} {w : World} {K : PySem.W.Frag} {mg : PySem.Str → Option Value} {base : Heap} (hd : Hd K mg) (h_own_block_in : Has P w K mg base ("own_block_in", none) 1 ["piece"] (spF (bd0 K w) 1 m_own_block_in)) : Has P w K mg base d_row_in.at_ 2 ["laying"] (spF (bd0 K w) 1 m_row_in) := has_fn hd 43 rfl sc_row_in rfl (fun Fn => FunD.bindsN Fn fun _ _ _ _ _ _ us hl => match us, hl with | [_], _ => rfl) (by_row_in hd h_own_block_in)
theorem sc_laying_by_row : FnScope ["row"] ["row"] d_laying_by_row.scope := ⟨rfl, rfl, rfl, by decide +kernel, rfl, by decide +kernel, by decide +kernel⟩
theorem by_laying_by_row {P : Program} {w : World} {K : PySem.W.Frag} {mg : PySem.Str → Option Value} {base : Heap} (hd : Hd K mg) : Body P w K mg base ["row"] d_laying_by_row 0 b_laying_by_row := fun f cdv A outer s F H E ok hr =>
  have sc := sc_laying_by_row
  (q_one (q_ret (nTuple ok (hd.free 81 rfl) (nSorted (.l .i) ok (hd.free 84 rfl) (by decide) (by decide) (nV 0)))))
theorem ok_laying_by_row {P : Program} {w : World} {K : PySem.W.Frag} {mg : PySem.Str → Option Value} {base : Heap} (hd : Hd K mg) : Has P w K mg base d_laying_by_row.at_ 1 ["row"] (spF (bd0 K w) 1 m_laying_by_row) := has_fn hd 44 rfl sc_laying_by_row rfl (fun Fn => FunD.bindsN Fn fun _ _ _ _ _ _ us hl => match us, hl with | [_], _ => rfl) (by_laying_by_row hd)
theorem sc_w_lists : FnScope ["_law_matter", "_law_bit"] ["_law_matter"] d_w_lists.scope := ⟨rfl, rfl, rfl, by decide +kernel, rfl, by decide +kernel, by decide +kernel⟩
theorem by_w_lists {P : Program} {w : World} {K : PySem.W.Frag} {mg : PySem.Str → Option Value} {base : Heap} {j : Nat} {g : List D → Option D} (hj : 0 ≤ j) (hd : Hd K mg) (me : Has P w K mg base ("_law_lists", none) j ["_law_matter"] (spF (bd0 K w) 1 g)) (hg : ∀ ds d, g ds = some d → ds.length = 1) : Body P w K mg base ["_law_matter", "_law_bit"] d_w_lists j (b_w_lists g) := fun f cdv A outer s F H E ok hr =>
  have sc := sc_w_lists
  (q_one (q_ret (r_if (nTest (nIsLT ok (hd.free 80 rfl) (hd.free 91 rfl) (hd.free 81 rfl) (nV 0))) (r_lc ok sc.nd (i_of ok (nV 0)) (blkOk_by (own := [("_law_bit", 1)]) rfl) rfl rfl (fun _ _ _ _ _ => (gN 1 sc.nd)) (fun _ _ _ _ _ => pts_nil) (fun _ _ _ _ _ => (nCall (ps := ["_law_matter"]) (g := g) me (hd.glo 53 rfl) bd_eqv (by exact hr) (Nat.le_refl _) (aC' (nV 1) a_nil) hg)) (fun _ => rfl)) (nV 0))))
theorem sc_w_same : FnScope ["_law_got", "_law_due", "_law_mine", "_law_its"] ["_law_got", "_law_due"] d_w_same.scope := ⟨rfl, rfl, rfl, by decide +kernel, rfl, by decide +kernel, by decide +kernel⟩
theorem by_w_same {P : Program} {w : World} {K : PySem.W.Frag} {mg : PySem.Str → Option Value} {base : Heap} {j : Nat} {g : List D → Option D} (hj : 0 ≤ j) (hd : Hd K mg) (me : Has P w K mg base ("_law_same", none) j ["_law_got", "_law_due"] (spF (bd0 K w) 2 g)) (hg : ∀ ds d, g ds = some d → ds.length = 2) : Body P w K mg base ["_law_got", "_law_due", "_law_mine", "_law_its"] d_w_same j (b_w_same g) := fun f cdv A outer s F H E ok hr =>
  have sc := sc_w_same
  (q_cons (q_if (nTest (nIsLT ok (hd.free 80 rfl) (hd.free 91 rfl) (hd.free 81 rfl) (nV 1))) (q_cons (q_if (w_or (nNeT ok (nIsList ok (hd.free 80 rfl) (hd.free 91 rfl) (nV 0)) (nIsList ok (hd.free 80 rfl) (hd.free 91 rfl) (nV 1))) (pw_or1 (nNeT ok (nIsTup ok (hd.free 80 rfl) (hd.free 81 rfl) (nV 0)) (nIsTup ok (hd.free 80 rfl) (hd.free 81 rfl) (nV 1))))).pt (q_one (q_ret (r_bl))) q_nil) (q_one (q_ret ((r_and (nEq ok (nLen ok (hd.free 79 rfl) (nV 0)) (nLen ok (hd.free 79 rfl) (nV 1))) (pe_one (nAll ok (hd.free 82 rfl) (r_lc ok sc.nd (iZip' ok (hd.free 93 rfl) (nV 0) (nV 1)) (blkOk_by (own := [("_law_mine", 2), ("_law_its", 3)]) rfl) rfl rfl (fun _ _ _ _ _ => (gT ok.blk (gC (gN 2 sc.nd) (gC (gN 3 sc.nd) gs_nil)))) (fun _ _ _ _ _ => pts_nil) (fun _ _ _ _ _ => (nCall (ps := ["_law_got", "_law_due"]) (g := g) me (hd.glo 54 rfl) bd_eqv (by exact hr) (Nat.le_refl _) (aC' (nV 2) (aC' (nV 3) a_nil)) hg)) (fun _ => rfl))))))))) q_nil) (q_cons (q_if (w_or (r_isNT (nV 1)) (pw_or1 (nTest (nIsBS ok (hd.free 80 rfl) (hd.free 94 rfl) (hd.free 116 rfl) (nV 1))))).pt (q_one (q_ret ((r_and (nEq ok (nV 0) (nV 1)) (r_and (nEq ok (nIsBool ok (hd.free 80 rfl) (hd.free 94 rfl) (nV 0)) (nIsBool ok (hd.free 80 rfl) (hd.free 94 rfl) (nV 1))) (pe_one (nEq ok (r_isN (nV 0)) (r_isN (nV 1))))))))) q_nil) (q_one (q_ret ((r_and (nIsInt ok (hd.free 80 rfl) (hd.free 86 rfl) (nV 0)) (r_and (r_not (nIsBool ok (hd.free 80 rfl) (hd.free 94 rfl) (nV 0))) (pe_one (nEq ok (nV 0) (nV 1))))))))))
theorem sc_w_off : FnScope ["_law_way_so"] ["_law_way_so"] d_w_off.scope := ⟨rfl, rfl, rfl, by decide +kernel, rfl, by decide +kernel, by decide +kernel⟩
theorem by_w_off {P : Program} {w : World} {K : PySem.W.Frag} {mg : PySem.Str → Option Value} {base : Heap} (hd : Hd K mg) : Body P w K mg base ["_law_way_so"] d_w_off 0 b_w_off := fun f cdv A outer s F H E ok hr =>
  have sc := sc_w_off
  (q_one (q_ret (nIx ok (r_lst (aC' (nTup (aC' (r_int) (aC' (r_int) a_nil))) (aC' (nTup (aC' (r_int) (aC' (r_int) a_nil))) (aC' (nTup (aC' (nNeg (r_int)) (aC' (r_int) a_nil))) (aC' (nTup (aC' (r_int) (aC' (nNeg (r_int)) a_nil))) a_nil))))) (nMod ok (nInt ok (hd.free 86 rfl) (nV 0)) (r_int)))))
theorem ok_w_off {P : Program} {w : World} {K : PySem.W.Frag} {mg : PySem.Str → Option Value} {base : Heap} (hd : Hd K mg) : Has P w K mg base d_w_off.at_ 1 ["_law_way_so"] (spF (bd0 K w) 1 m_w_off) := has_fn hd 59 rfl sc_w_off rfl (fun Fn => FunD.bindsN Fn fun _ _ _ _ _ _ us hl => match us, hl with | [_], _ => rfl) (by_w_off hd)
theorem sc_w_plots : FnScope ["_law_deck", "_law_found", "_law_i", "_law_j"] ["_law_deck"] d_w_plots.scope := ⟨rfl, rfl, rfl, by decide +kernel, rfl, by decide +kernel, by decide +kernel⟩
theorem by_w_plots {P : Program} {w : World} {K : PySem.W.Frag} {mg : PySem.Str → Option Value} {base : Heap} (hd : Hd K mg) : Body P w K mg base ["_law_deck", "_law_found", "_law_i", "_law_j"] d_w_plots 0 b_w_plots := fun f cdv A outer s F H E ok hr =>
  have sc := sc_w_plots
  (q_cons (sSet' 1 (r_lst a_nil) sc.nd) (q_cons (sFor' PassesOwn.never ok (iRange' (hd.free 83 rfl) (nMul ok (r_int) (nIx ok (nV 0) (r_int)))) (gN 2 sc.nd) (q_one (sSet' 1 (nAdd ok (nV 1) (r_lc ok sc.nd (iRange' (hd.free 83 rfl) (nMul ok (r_int) (nIx ok (nV 0) (r_int)))) (blkOk_by (own := [("_law_j", 3)]) rfl) rfl rfl (fun _ _ _ _ _ => (gN 3 sc.nd)) (fun _ _ _ _ _ => pts_nil) (fun _ _ _ _ _ => (nTup (aC' (nV 2) (aC' (nV 3) a_nil)))) (fun _ => rfl))) sc.nd))) (q_one (q_ret (nV 1)))))
theorem ok_w_plots {P : Program} {w : World} {K : PySem.W.Frag} {mg : PySem.Str → Option Value} {base : Heap} (hd : Hd K mg) : Has P w K mg base d_w_plots.at_ 1 ["_law_deck"] (spF (bd0 K w) 1 m_w_plots) := has_fn hd 60 rfl sc_w_plots rfl (fun Fn => FunD.bindsN Fn fun _ _ _ _ _ _ us hl => match us, hl with | [_], _ => rfl) (by_w_plots hd)
theorem sc_w_dot : FnScope ["_law_plot"] ["_law_plot"] d_w_dot.scope := ⟨rfl, rfl, rfl, by decide +kernel, rfl, by decide +kernel, by decide +kernel⟩
theorem by_w_dot {P : Program} {w : World} {K : PySem.W.Frag} {mg : PySem.Str → Option Value} {base : Heap} (hd : Hd K mg) : Body P w K mg base ["_law_plot"] d_w_dot 0 b_w_dot := fun f cdv A outer s F H E ok hr =>
  have sc := sc_w_dot
  (q_one (q_ret (nTup (aC' (r_sym (c := .dot) rfl) (aC' (nDiv ok (nIx ok (nV 0) (r_int)) (r_int)) (aC' (nDiv ok (nIx ok (nV 0) (r_int)) (r_int)) a_nil))))))
theorem ok_w_dot {P : Program} {w : World} {K : PySem.W.Frag} {mg : PySem.Str → Option Value} {base : Heap} (hd : Hd K mg) : Has P w K mg base d_w_dot.at_ 1 ["_law_plot"] (spF (bd0 K w) 1 m_w_dot) := has_fn hd 61 rfl sc_w_dot rfl (fun Fn => FunD.bindsN Fn fun _ _ _ _ _ _ us hl => match us, hl with | [_], _ => rfl) (by_w_dot hd)
theorem sc_w_dots : FnScope ["_law_deck", "_law_found", "_law_i", "_law_j"] ["_law_deck"] d_w_dots.scope := ⟨rfl, rfl, rfl, by decide +kernel, rfl, by decide +kernel, by decide +kernel⟩
theorem by_w_dots {P : Program} {w : World} {K : PySem.W.Frag} {mg : PySem.Str → Option Value} {base : Heap} (hd : Hd K mg) : Body P w K mg base ["_law_deck", "_law_found", "_law_i", "_law_j"] d_w_dots 0 b_w_dots := fun f cdv A outer s F H E ok hr =>
  have sc := sc_w_dots
  (q_cons (sSet' 1 (r_lst a_nil) sc.nd) (q_cons (sFor' PassesOwn.never ok (iRange' (hd.free 83 rfl) (nIx ok (nV 0) (r_int))) (gN 2 sc.nd) (q_one (sSet' 1 (nAdd ok (nV 1) (r_lc ok sc.nd (iRange' (hd.free 83 rfl) (nIx ok (nV 0) (r_int))) (blkOk_by (own := [("_law_j", 3)]) rfl) rfl rfl (fun _ _ _ _ _ => (gN 3 sc.nd)) (fun _ _ _ _ _ => pts_nil) (fun _ _ _ _ _ => (nTup (aC' (nV 2) (aC' (nV 3) a_nil)))) (fun _ => rfl))) sc.nd))) (q_one (q_ret (nV 1)))))
theorem ok_w_dots {P : Program} {w : World} {K : PySem.W.Frag} {mg : PySem.Str → Option Value} {base : Heap} (hd : Hd K mg) : Has P w K mg base d_w_dots.at_ 1 ["_law_deck"] (spF (bd0 K w) 1 m_w_dots) := has_fn hd 62 rfl sc_w_dots rfl (fun Fn => FunD.bindsN Fn fun _ _ _ _ _ _ us hl => match us, hl with | [_], _ => rfl) (by_w_dots hd)
theorem sc_w_bonds : FnScope ["_law_deck", "_law_found", "_law_i", "_law_j"] ["_law_deck"] d_w_bonds.scope := ⟨rfl, rfl, rfl, by decide +kernel, rfl, by decide +kernel, by decide +kernel⟩
theorem by_w_bonds {P : Program} {w : World} {K : PySem.W.Frag} {mg : PySem.Str → Option Value} {base : Heap} (hd : Hd K mg) (h_w_dots : Has P w K mg base ("_law_dots", none) 1 ["_law_deck"] (spF (bd0 K w) 1 m_w_dots)) : Body P w K mg base ["_law_deck", "_law_found", "_law_i", "_law_j"] d_w_bonds 1 b_w_bonds := fun f cdv A outer s F H E ok hr =>
  have sc := sc_w_bonds
  (q_cons (sNewL' 1 a_nil sc.nd) (q_cons (sFor' PassesOwn.never ok (i_of ok (nCall (ps := ["_law_deck"]) (g := m_w_dots) h_w_dots (hd.glo 58 rfl) bd_eqv hr (by decide) (aC' (nV 0) a_nil))) (gT ok (gC (gN 2 sc.nd) (gC (gN 3 sc.nd) gs_nil))) (q_cons (q_if (nLtT ok (nAdd ok (nV 2) (r_int)) (nIx ok (nV 0) (r_int))) (q_one (sApp' 1 (nW 1) (nTup (aC' (nTup (aC' (nV 2) (aC' (nV 3) a_nil))) (aC' (nTup (aC' (nAdd ok (nV 2) (r_int)) (aC' (nV 3) a_nil))) a_nil))))) q_nil) (q_one (q_if (nLtT ok (nAdd ok (nV 3) (r_int)) (nIx ok (nV 0) (r_int))) (q_one (sApp' 1 (nW 1) (nTup (aC' (nTup (aC' (nV 2) (aC' (nV 3) a_nil))) (aC' (nTup (aC' (nV 2) (aC' (nAdd ok (nV 3) (r_int)) a_nil))) a_nil))))) q_nil)))) (q_one (q_ret (nSorted (.l (.l .i)) ok (hd.free 84 rfl) (by decide) (by decide) (nV 1))))))
theorem ok_w_bonds {P : Program} {w : World} {K : PySem.W.Frag} {mg : PySem.Str → Option Value} {base : Heap} (hd : Hd K mg) (h_w_dots : Has P w K mg base ("_law_dots", none) 1 ["_law_deck"] (spF (bd0 K w) 1 m_w_dots)) : Has P w K mg base d_w_bonds.at_ 2 ["_law_deck"] (spF (bd0 K w) 1 m_w_bonds) := has_fn hd 63 rfl sc_w_bonds rfl (fun Fn => FunD.bindsN Fn fun _ _ _ _ _ _ us hl => match us, hl with | [_], _ => rfl) (by_w_bonds hd h_w_dots)
theorem sc_w_bond_at : FnScope ["_law_deck", "_law_dot_so", "_law_way_so", "_law_x", "_law_y", "_law_far"] ["_law_deck", "_law_dot_so", "_law_way_so"] d_w_bond_at.scope := ⟨rfl, rfl, rfl, by decide +kernel, rfl, by decide +kernel, by decide +kernel⟩
theorem by_w_bond_at {P : Program} {w : World} {K : PySem.W.Frag} {mg : PySem.Str → Option Value} {base : Heap} (hd : Hd K mg) (h_w_off : Has P w K mg base ("_law_off", none) 1 ["_law_way_so"] (spF (bd0 K w) 1 m_w_off)) : Body P w K mg base ["_law_deck", "_law_dot_so", "_law_way_so", "_law_x", "_law_y", "_law_far"] d_w_bond_at 1 b_w_bond_at := fun f cdv A outer s F H E ok hr =>
  have sc := sc_w_bond_at
  (q_cons (q_unp (nCall (ps := ["_law_way_so"]) (g := m_w_off) h_w_off (hd.glo 55 rfl) bd_eqv hr (by decide) (aC' (nV 2) a_nil)) (gT ok (gC (gN 3 sc.nd) (gC (gN 4 sc.nd) gs_nil))) rfl rfl rfl) (q_cons (sSet' 5 (nTup (aC' (nAdd ok (nIx ok (nV 1) (r_int)) (nV 3)) (aC' (nAdd ok (nIx ok (nV 1) (r_int)) (nV 4)) a_nil))) sc.nd) (q_cons (q_if (w_or (t_not (nCh_LeI_LtIT (r_int) (nIx ok (nV 5) (r_int)) (nIx ok (nV 0) (r_int)))) (pw_or1 (t_not (nCh_LeI_LtIT (r_int) (nIx ok (nV 5) (r_int)) (nIx ok (nV 0) (r_int)))))).pt (q_one (q_ret (r_non))) q_nil) (q_one (q_ret (nTup (aC' (nMin2 ok (hd.free 88 rfl) (nV 1) (nV 5)) (aC' (nMax2 ok (hd.free 89 rfl) (nV 1) (nV 5)) a_nil))))))))
theorem ok_w_bond_at {P : Program} {w : World} {K : PySem.W.Frag} {mg : PySem.Str → Option Value} {base : Heap} (hd : Hd K mg) (h_w_off : Has P w K mg base ("_law_off", none) 1 ["_law_way_so"] (spF (bd0 K w) 1 m_w_off)) : Has P w K mg base d_w_bond_at.at_ 2 ["_law_deck", "_law_dot_so", "_law_way_so"] (spF (bd0 K w) 3 m_w_bond_at) := has_fn hd 64 rfl sc_w_bond_at rfl (fun Fn => FunD.bindsN Fn fun _ _ _ _ _ _ us hl => match us, hl with | [_, _, _], _ => rfl) (by_w_bond_at hd h_w_off)
theorem sc_w_pair_at : FnScope ["_law_dot_so", "_law_way_so", "_law_x", "_law_y", "_law_i", "_law_j"] ["_law_dot_so", "_law_way_so"] d_w_pair_at.scope := ⟨rfl, rfl, rfl, by decide +kernel, rfl, by decide +kernel, by decide +kernel⟩
theorem by_w_pair_at {P : Program} {w : World} {K : PySem.W.Frag} {mg : PySem.Str → Option Value} {base : Heap} (hd : Hd K mg) (h_w_off : Has P w K mg base ("_law_off", none) 1 ["_law_way_so"] (spF (bd0 K w) 1 m_w_off)) : Body P w K mg base ["_law_dot_so", "_law_way_so", "_law_x", "_law_y", "_law_i", "_law_j"] d_w_pair_at 1 b_w_pair_at := fun f cdv A outer s F H E ok hr =>
  have sc := sc_w_pair_at
  (q_cons (q_unp (nCall (ps := ["_law_way_so"]) (g := m_w_off) h_w_off (hd.glo 55 rfl) bd_eqv hr (by decide) (aC' (nV 1) a_nil)) (gT ok (gC (gN 2 sc.nd) (gC (gN 3 sc.nd) gs_nil))) rfl rfl rfl) (q_cons (q_par2 ok sc.nd (i := 4) (j := 5) rfl rfl (by decide) rfl rfl (pC' (nMul ok (r_int) (nIx ok (nV 0) (r_int))) (pC' (nMul ok (r_int) (nIx ok (nV 0) (r_int))) p_nil)) rfl rfl) (q_cons (q_if (nEqT ok (nV 3) (r_int)) (q_one (q_ret (nTup (aC' (nTup (aC' (nAdd ok (nV 4) (nInt ok (hd.free 86 rfl) (nEq ok (nV 2) (r_int)))) (aC' (nV 5) a_nil))) (aC' (nTup (aC' (nAdd ok (nV 4) (nInt ok (hd.free 86 rfl) (nEq ok (nV 2) (r_int)))) (aC' (nAdd ok (nV 5) (r_int)) a_nil))) a_nil))))) q_nil) (q_one (q_ret (nTup (aC' (nTup (aC' (nV 4) (aC' (nAdd ok (nV 5) (nInt ok (hd.free 86 rfl) (nEq ok (nV 3) (r_int)))) a_nil))) (aC' (nTup (aC' (nAdd ok (nV 4) (r_int)) (aC' (nAdd ok (nV 5) (nInt ok (hd.free 86 rfl) (nEq ok (nV 3) (r_int)))) a_nil))) a_nil))))))))
theorem ok_w_pair_at {P : Program} {w : World} {K : PySem.W.Frag} {mg : PySem.Str → Option Value} {base : Heap} (hd : Hd K mg) (h_w_off : Has P w K mg base ("_law_off", none) 1 ["_law_way_so"] (spF (bd0 K w) 1 m_w_off)) : Has P w K mg base d_w_pair_at.at_ 2 ["_law_dot_so", "_law_way_so"] (spF (bd0 K w) 2 m_w_pair_at) := has_fn hd 65 rfl sc_w_pair_at rfl (fun Fn => FunD.bindsN Fn fun _ _ _ _ _ _ us hl => match us, hl with | [_, _], _ => rfl) (by_w_pair_at hd h_w_off)
theorem sc_w_site : FnScope ["_law_bond", "_law_way_so"] ["_law_bond"] d_w_site.scope := ⟨rfl, rfl, rfl, by decide +kernel, rfl, by decide +kernel, by decide +kernel⟩
theorem by_w_site {P : Program} {w : World} {K : PySem.W.Frag} {mg : PySem.Str → Option Value} {base : Heap} (hd : Hd K mg) (h_w_pair_at : Has P w K mg base ("_law_pair_at", none) 2 ["_law_dot_so", "_law_way_so"] (spF (bd0 K w) 2 m_w_pair_at)) : Body P w K mg base ["_law_bond", "_law_way_so"] d_w_site 2 b_w_site := fun f cdv A outer s F H E ok hr =>
  have sc := sc_w_site
  (q_cons (sSet' 1 (r_if (nEqT ok (nIx ok (nIx ok (nV 0) (r_int)) (r_int)) (nIx ok (nIx ok (nV 0) (r_int)) (r_int))) (r_int) (r_int)) sc.nd) (q_one (q_ret (nAdd ok (nCall (ps := ["_law_dot_so", "_law_way_so"]) (g := m_w_pair_at) h_w_pair_at (hd.glo 61 rfl) bd_eqv hr (by decide) (aC' (nIx ok (nV 0) (r_int)) (aC' (nV 1) a_nil))) (nCall (ps := ["_law_dot_so", "_law_way_so"]) (g := m_w_pair_at) h_w_pair_at (hd.glo 61 rfl) bd_eqv hr (by decide) (aC' (nIx ok (nV 0) (r_int)) (aC' (nAdd ok (nV 1) (r_int)) a_nil)))))))
theorem ok_w_site {P : Program} {w : World} {K : PySem.W.Frag} {mg : PySem.Str → Option Value} {base : Heap} (hd : Hd K mg) (h_w_pair_at : Has P w K mg base ("_law_pair_at", none) 2 ["_law_dot_so", "_law_way_so"] (spF (bd0 K w) 2 m_w_pair_at)) : Has P w K mg base d_w_site.at_ 3 ["_law_bond"] (spF (bd0 K w) 1 m_w_site) := has_fn hd 66 rfl sc_w_site rfl (fun Fn => FunD.bindsN Fn fun _ _ _ _ _ _ us hl => match us, hl with | [_], _ => rfl) (by_w_site hd h_w_pair_at)
theorem sc_w_middle : FnScope ["_law_plot", "_law_sign_so", "_law_e_so", "_law_f_so", "_law_east_so", "_law_north_so", "_law_across_so", "_law_along_so", "_law_spot", "_law_far_so", "_law_near_so", "_law_own"] ["_law_plot", "_law_sign_so"] d_w_middle.scope := ⟨rfl, rfl, rfl, by decide +kernel, rfl, by decide +kernel, by decide +kernel⟩
theorem by_w_middle {P : Program} {w : World} {K : PySem.W.Frag} {mg : PySem.Str → Option Value} {base : Heap} (hd : Hd K mg) : Body P w K mg base ["_law_plot", "_law_sign_so", "_law_e_so", "_law_f_so", "_law_east_so", "_law_north_so", "_law_across_so", "_law_along_so", "_law_spot", "_law_far_so", "_law_near_so", "_law_own"] d_w_middle 0 b_w_middle := fun f cdv A outer s F H E ok hr =>
  have sc := sc_w_middle
  (q_cons (sSet' 2 (nSub ok (nMul ok (r_int) (nMod ok (nInt ok (hd.free 86 rfl) (nIx ok (nV 0) (r_int))) (r_int))) (r_int)) sc.nd) (q_cons (sSet' 3 (nSub ok (nMul ok (r_int) (nMod ok (nInt ok (hd.free 86 rfl) (nIx ok (nV 0) (r_int))) (r_int))) (r_int)) sc.nd) (q_cons (q_par2 ok sc.nd (i := 4) (j := 5) rfl rfl (by decide) rfl rfl (pC' (nInt ok (hd.free 86 rfl) (nEq ok (nMul ok (nNeg (nV 3)) (nV 1)) (r_int))) (pC' (nInt ok (hd.free 86 rfl) (nEq ok (nMul ok (nV 2) (nV 1)) (r_int))) p_nil)) rfl rfl) (q_cons (sSet' 6 (nSub ok (r_int) (nMul ok (r_int) (nV 4))) sc.nd) (q_cons (sSet' 7 (nSub ok (r_int) (nMul ok (r_int) (nV 5))) sc.nd) (q_cons (sSet' 8 (nTup (aC' (nAdd ok (nMul ok (r_int) (nIx ok (nV 0) (r_int))) (nV 4)) (aC' (nAdd ok (nMul ok (r_int) (nIx ok (nV 0) (r_int))) (nV 5)) a_nil))) sc.nd) (q_cons (sSet' 9 (r_lc ok sc.nd (i_of ok (nTup (aC' (nV 6) (aC' (nV 7) a_nil)))) (blkOk_by (own := [("_law_own", 11)]) rfl) rfl rfl (fun _ _ _ _ _ => (gN 11 sc.nd)) (fun _ _ _ _ _ => pts_one (nInT ok.blk (nV 11) (nTup (aC' (nSub ok.blk (r_int) (nV 2)) (aC' (nSub ok.blk (r_int) (nV 3)) a_nil))))) (fun _ _ _ _ _ => (nV 11)) (fun _ => rfl)) sc.nd) (q_cons (q_setLc ok sc.nd (i := 10) rfl rfl (sw_true rfl rfl rfl rfl) (i_of ok (nTup (aC' (nV 6) (aC' (nV 7) a_nil)))) (blkOk_by (own := [("_law_own", 11)]) rfl) rfl rfl (fun _ _ _ _ _ => (gN 11 sc.nd)) (fun _ _ _ _ _ => pts_one (nNotInT ok.blk (nV 11) (nV 9))) (fun _ _ _ _ _ => (nV 11)) (fun _ => rfl)) (q_one (q_ret (nTup (aC' (nV 8) (aC' (nIx ok (nV 10) (r_int)) (aC' (nIx ok (nV 9) (r_int)) a_nil))))))))))))))
theorem ok_w_middle {P : Program} {w : World} {K : PySem.W.Frag} {mg : PySem.Str → Option Value} {base : Heap} (hd : Hd K mg) : Has P w K mg base d_w_middle.at_ 1 ["_law_plot", "_law_sign_so"] (spF (bd0 K w) 2 m_w_middle) := has_fn hd 67 rfl sc_w_middle rfl (fun Fn => FunD.bindsN Fn fun _ _ _ _ _ _ us hl => match us, hl with | [_, _], _ => rfl) (by_w_middle hd)
theorem sc_w_slab : FnScope ["_law_plot", "_law_sign_so", "_law_out_so", "_law_spot", "_law_near_so", "_law_far_so", "_law_way_so"] ["_law_plot", "_law_sign_so", "_law_out_so"] d_w_slab.scope := ⟨rfl, rfl, rfl, by decide +kernel, rfl, by decide +kernel, by decide +kernel⟩
theorem by_w_slab {P : Program} {w : World} {K : PySem.W.Frag} {mg : PySem.Str → Option Value} {base : Heap} (hd : Hd K mg) (h_w_middle : Has P w K mg base ("_law_middle", none) 1 ["_law_plot", "_law_sign_so"] (spF (bd0 K w) 2 m_w_middle)) : Body P w K mg base ["_law_plot", "_law_sign_so", "_law_out_so", "_law_spot", "_law_near_so", "_law_far_so", "_law_way_so"] d_w_slab 1 b_w_slab := fun f cdv A outer s F H E ok hr =>
  have sc := sc_w_slab
  (q_cons (q_unp (nCall (ps := ["_law_plot", "_law_sign_so"]) (g := m_w_middle) h_w_middle (hd.glo 63 rfl) bd_eqv hr (by decide) (aC' (nV 0) (aC' (nV 1) a_nil))) (gT ok (gC (gN 3 sc.nd) (gC (gN 4 sc.nd) (gC (gN 5 sc.nd) gs_nil)))) rfl rfl rfl) (q_cons (sSet' 6 (r_if (nEqT ok (nV 2) (r_int)) (nV 4) (nV 5)) sc.nd) (q_one (q_ret (nAdd ok (nV 3) (nTup (aC' (nMod ok (nInt ok (hd.free 86 rfl) (nAdd ok (nV 6) (r_int))) (r_int)) a_nil)))))))
theorem ok_w_slab {P : Program} {w : World} {K : PySem.W.Frag} {mg : PySem.Str → Option Value} {base : Heap} (hd : Hd K mg) (h_w_middle : Has P w K mg base ("_law_middle", none) 1 ["_law_plot", "_law_sign_so"] (spF (bd0 K w) 2 m_w_middle)) : Has P w K mg base d_w_slab.at_ 2 ["_law_plot", "_law_sign_so", "_law_out_so"] (spF (bd0 K w) 3 m_w_slab) := has_fn hd 68 rfl sc_w_slab rfl (fun Fn => FunD.bindsN Fn fun _ _ _ _ _ _ us hl => match us, hl with | [_, _, _], _ => rfl) (by_w_slab hd h_w_middle)
theorem sc_w_joins : FnScope ["_law_deck", "_law_heap", "_law_found", "_law_dot_so", "_law_way_so", "_law_bond", "_law_pair_so", "_law_site_so"] ["_law_deck", "_law_heap"] d_w_joins.scope := ⟨rfl, rfl, rfl, by decide +kernel, rfl, by decide +kernel, by decide +kernel⟩
theorem by_w_joins {P : Program} {w : World} {K : PySem.W.Frag} {mg : PySem.Str → Option Value} {base : Heap} (hd : Hd K mg) (h_w_dots : Has P w K mg base ("_law_dots", none) 1 ["_law_deck"] (spF (bd0 K w) 1 m_w_dots)) (h_w_site : Has P w K mg base ("_law_site", none) 3 ["_law_bond"] (spF (bd0 K w) 1 m_w_site)) (h_w_pair_at : Has P w K mg base ("_law_pair_at", none) 2 ["_law_dot_so", "_law_way_so"] (spF (bd0 K w) 2 m_w_pair_at)) (h_w_bond_at : Has P w K mg base ("_law_bond_at", none) 2 ["_law_deck", "_law_dot_so", "_law_way_so"] (spF (bd0 K w) 3 m_w_bond_at)) : Body P w K mg base ["_law_deck", "_law_heap", "_law_found", "_law_dot_so", "_law_way_so", "_law_bond", "_law_pair_so", "_law_site_so"] d_w_joins 3 b_w_joins := fun f cdv A outer s F H E ok hr =>
  have sc := sc_w_joins
  (q_cons (sNewL' 2 a_nil sc.nd) (q_cons (sFor' PassesOwn.never ok (i_of ok (nCall (ps := ["_law_deck"]) (g := m_w_dots) h_w_dots (hd.glo 58 rfl) bd_eqv hr (by decide) (aC' (nV 0) a_nil))) (gN 3 sc.nd) (q_one (sFor' PassesOwn.never ok (iRange' (hd.free 83 rfl) (r_int)) (gN 4 sc.nd) (q_cons (q_par2 ok sc.nd (i := 5) (j := 6) rfl rfl (by decide) rfl rfl (pC' (nCall (ps := ["_law_deck", "_law_dot_so", "_law_way_so"]) (g := m_w_bond_at) h_w_bond_at (hd.glo 60 rfl) bd_eqv hr (by decide) (aC' (nV 0) (aC' (nV 3) (aC' (nV 4) a_nil)))) (pC' (nCall (ps := ["_law_dot_so", "_law_way_so"]) (g := m_w_pair_at) h_w_pair_at (hd.glo 61 rfl) bd_eqv hr (by decide) (aC' (nV 3) (aC' (nV 4) a_nil))) p_nil)) rfl rfl) (q_one (q_if (w_or (r_isNT (nV 5)) (pw_or1 (nNotInT ok (nV 5) (nV 1)))).pt (q_one (sApp' 2 (nW 2) (nV 6))) (q_one (q_if (nEqT ok (nIx ok (nV 5) (r_int)) (nV 3)) (q_cons (sSet' 7 (nCall (ps := ["_law_bond"]) (g := m_w_site) h_w_site (hd.glo 62 rfl) bd_eqv hr (by decide) (aC' (nV 5) a_nil)) sc.nd) (q_one (sAddL' 2 ok (nV 2) (r_lst (aC' (nTup (aC' (nIx ok (nV 7) (r_int)) (aC' (nIx ok (nV 7) (r_int)) a_nil))) (aC' (nTup (aC' (nIx ok (nV 7) (r_int)) (aC' (nIx ok (nV 7) (r_int)) a_nil))) a_nil))) sc.nd))) q_nil)))))))) (q_one (q_ret (nV 2)))))
theorem ok_w_joins {P : Program} {w : World} {K : PySem.W.Frag} {mg : PySem.Str → Option Value} {base : Heap} (hd : Hd K mg) (h_w_dots : Has P w K mg base ("_law_dots", none) 1 ["_law_deck"] (spF (bd0 K w) 1 m_w_dots)) (h_w_site : Has P w K mg base ("_law_site", none) 3 ["_law_bond"] (spF (bd0 K w) 1 m_w_site)) (h_w_pair_at : Has P w K mg base ("_law_pair_at", none) 2 ["_law_dot_so", "_law_way_so"] (spF (bd0 K w) 2 m_w_pair_at)) (h_w_bond_at : Has P w K mg base ("_law_bond_at", none) 2 ["_law_deck", "_law_dot_so", "_law_way_so"] (spF (bd0 K w) 3 m_w_bond_at)) : Has P w K mg base d_w_joins.at_ 4 ["_law_deck", "_law_heap"] (spF (bd0 K w) 2 m_w_joins) := has_fn hd 69 rfl sc_w_joins rfl (fun Fn => FunD.bindsN Fn fun _ _ _ _ _ _ us hl => match us, hl with | [_, _], _ => rfl) (by_w_joins hd h_w_dots h_w_site h_w_pair_at h_w_bond_at)
theorem sc_w_rounds : FnScope ["_law_deck", "_law_heap", "_law_joins_so", "_law_left_so", "_law_found", "_law_one", "_law_two", "_law_row_so", "_law_place_so", "_law_own", "_law_its"] ["_law_deck", "_law_heap"] d_w_rounds.scope := ⟨rfl, rfl, rfl, by decide +kernel, rfl, by decide +kernel, by decide +kernel⟩
theorem by_w_rounds {P : Program} {w : World} {K : PySem.W.Frag} {mg : PySem.Str → Option Value} {base : Heap} (hd : Hd K mg) (h_w_joins : Has P w K mg base ("_law_joins", none) 4 ["_law_deck", "_law_heap"] (spF (bd0 K w) 2 m_w_joins)) (h_w_plots : Has P w K mg base ("_law_plots", none) 1 ["_law_deck"] (spF (bd0 K w) 1 m_w_plots)) : Body P w K mg base ["_law_deck", "_law_heap", "_law_joins_so", "_law_left_so", "_law_found", "_law_one", "_law_two", "_law_row_so", "_law_place_so", "_law_own", "_law_its"] d_w_rounds 4 b_w_rounds := fun f cdv A outer s F H E ok hr =>
  have sc := sc_w_rounds
  (q_cons (q_par3 ok sc.nd (i := 2) (j := 3) (l := 4) rfl rfl rfl (by decide) (by decide) (by decide) rfl rfl rfl (pD' (pC' (nCall (ps := ["_law_deck"]) (g := m_w_plots) h_w_plots (hd.glo 56 rfl) bd_eqv hr (by decide) (aC' (nV 0) a_nil)) (pL' p_nil))) rfl rfl) (q_cons (sFor' PassesOwn.never ok (i_of ok (nCall (ps := ["_law_deck", "_law_heap"]) (g := m_w_joins) h_w_joins (hd.glo 65 rfl) bd_eqv hr (by decide) (aC' (nV 0) (aC' (nV 1) a_nil)))) (gT ok (gC (gN 5 sc.nd) (gC (gN 6 sc.nd) gs_nil))) (q_cons (sPut' 2 ok (nW 2) (nV 5) (r_if (nPkInT 2 ok (nV 5) (nW 2)) (nAdd ok (nPkIx 2 ok (nW 2) (nV 5)) (r_lst (aC' (nV 6) a_nil))) (r_lst (aC' (nV 6) a_nil)))) (q_one (sPut' 2 ok (nW 2) (nV 6) (r_if (nPkInT 2 ok (nV 6) (nW 2)) (nAdd ok (nPkIx 2 ok (nW 2) (nV 6)) (r_lst (aC' (nV 5) a_nil))) (r_lst (aC' (nV 5) a_nil))))))) (q_cons (q_while PassesOwn.never (r_neNilT ok (nV 3)) (q_cons (q_parT ok (pC' (r_lst (aC' (nIx ok (nV 3) (r_int)) a_nil)) (pC' (r_int) p_nil)) (gnC 7 sc.nd (gnC 8 sc.nd gn_nil)) rfl rfl rfl (by decide) rfl rfl rfl) (q_cons (q_while PassesOwn.never (nLtT ok (nV 8) (nLen ok (hd.free 79 rfl) (nV 7))) (q_cons (sSet' 9 (nIx ok (nV 7) (nV 8)) sc.nd) (q_cons (sSet' 8 (nAdd ok (nV 8) (r_int)) sc.nd) (q_one (sSet' 7 (nAdd ok (nV 7) (r_lc ok sc.nd (i_of ok (nPkIx 2 ok (nW 2) (nV 9))) (blkOk_by (own := [("_law_its", 10)]) rfl) rfl rfl (fun _ _ _ _ _ => (gN 10 sc.nd)) (fun _ _ _ _ _ => pts_one (nNotInT ok.blk (nV 10) (nV 7))) (fun _ _ _ _ _ => (nV 10)) (fun _ => rfl))) sc.nd))))) (q_cons (sApp' 4 (nW 4) (nTuple ok (hd.free 81 rfl) (nSorted (.l .i) ok (hd.free 84 rfl) (by decide) (by decide) (nV 7)))) (q_one (q_setLc ok sc.nd (i := 3) rfl rfl (sw_true rfl rfl rfl rfl) (i_of ok (nV 3)) (blkOk_by (own := [("_law_own", 9)]) rfl) rfl rfl (fun _ _ _ _ _ => (gN 9 sc.nd)) (fun _ _ _ _ _ => pts_one (nNotInT ok.blk (nV 9) (nV 7))) (fun _ _ _ _ _ => (nV 9)) (fun _ => rfl))))))) (q_one (q_ret (nSorted (.l (.l .i)) ok (hd.free 84 rfl) (by decide) (by decide) (nV 4)))))))
theorem ok_w_rounds {P : Program} {w : World} {K : PySem.W.Frag} {mg : PySem.Str → Option Value} {base : Heap} (hd : Hd K mg) (h_w_joins : Has P w K mg base ("_law_joins", none) 4 ["_law_deck", "_law_heap"] (spF (bd0 K w) 2 m_w_joins)) (h_w_plots : Has P w K mg base ("_law_plots", none) 1 ["_law_deck"] (spF (bd0 K w) 1 m_w_plots)) : Has P w K mg base d_w_rounds.at_ 5 ["_law_deck", "_law_heap"] (spF (bd0 K w) 2 m_w_rounds) := has_fn hd 70 rfl sc_w_rounds rfl (fun Fn => FunD.bindsN Fn fun _ _ _ _ _ _ us hl => match us, hl with | [_, _], _ => rfl) (by_w_rounds hd h_w_joins h_w_plots)
theorem sc_w_lots : FnScope ["_law_deck", "_law_found", "_law_bond", "_law_own"] ["_law_deck"] d_w_lots.scope := ⟨rfl, rfl, rfl, by decide +kernel, rfl, by decide +kernel, by decide +kernel⟩
theorem by_w_lots {P : Program} {w : World} {K : PySem.W.Frag} {mg : PySem.Str → Option Value} {base : Heap} (hd : Hd K mg) (h_w_bonds : Has P w K mg base ("_law_bonds", none) 2 ["_law_deck"] (spF (bd0 K w) 1 m_w_bonds)) : Body P w K mg base ["_law_deck", "_law_found", "_law_bond", "_law_own"] d_w_lots 2 b_w_lots := fun f cdv A outer s F H E ok hr =>
  have sc := sc_w_lots
  (q_cons (sSet' 1 (r_lst (aC' (nTup a_nil) a_nil)) sc.nd) (q_cons (sFor' PassesOwn.never ok (i_of ok (nCall (ps := ["_law_deck"]) (g := m_w_bonds) h_w_bonds (hd.glo 59 rfl) bd_eqv hr (by decide) (aC' (nV 0) a_nil))) (gN 2 sc.nd) (q_one (sSet' 1 (nAdd ok (nV 1) (r_lc ok sc.nd (i_of ok (nV 1)) (blkOk_by (own := [("_law_own", 3)]) rfl) rfl rfl (fun _ _ _ _ _ => (gN 3 sc.nd)) (fun _ _ _ _ _ => pts_nil) (fun _ _ _ _ _ => (nAdd ok.blk (nV 3) (nTup (aC' (nV 2) a_nil)))) (fun _ => rfl))) sc.nd))) (q_one (q_ret (nV 1)))))
theorem ok_w_lots {P : Program} {w : World} {K : PySem.W.Frag} {mg : PySem.Str → Option Value} {base : Heap} (hd : Hd K mg) (h_w_bonds : Has P w K mg base ("_law_bonds", none) 2 ["_law_deck"] (spF (bd0 K w) 1 m_w_bonds)) : Has P w K mg base d_w_lots.at_ 3 ["_law_deck"] (spF (bd0 K w) 1 m_w_lots) := has_fn hd 71 rfl sc_w_lots rfl (fun Fn => FunD.bindsN Fn fun _ _ _ _ _ _ us hl => match us, hl with | [_], _ => rfl) (by_w_lots hd h_w_bonds)
theorem sc_w_kinds_of : FnScope ["_law_deck", "_law_found", "_law_plot", "_law_sign_so", "_law_far_so", "_law_bond"] ["_law_deck"] d_w_kinds_of.scope := ⟨rfl, rfl, rfl, by decide +kernel, rfl, by decide +kernel, by decide +kernel⟩
theorem by_w_kinds_of {P : Program} {w : World} {K : PySem.W.Frag} {mg : PySem.Str → Option Value} {base : Heap} (hd : Hd K mg) (h_w_plots : Has P w K mg base ("_law_plots", none) 1 ["_law_deck"] (spF (bd0 K w) 1 m_w_plots)) (h_w_slab : Has P w K mg base ("_law_slab", none) 2 ["_law_plot", "_law_sign_so", "_law_out_so"] (spF (bd0 K w) 3 m_w_slab)) (h_w_bond_at : Has P w K mg base ("_law_bond_at", none) 2 ["_law_deck", "_law_dot_so", "_law_way_so"] (spF (bd0 K w) 3 m_w_bond_at)) (h_w_dot : Has P w K mg base ("_law_dot", none) 1 ["_law_plot"] (spF (bd0 K w) 1 m_w_dot)) (h_w_middle : Has P w K mg base ("_law_middle", none) 1 ["_law_plot", "_law_sign_so"] (spF (bd0 K w) 2 m_w_middle)) : Body P w K mg base ["_law_deck", "_law_found", "_law_plot", "_law_sign_so", "_law_far_so", "_law_bond"] d_w_kinds_of 2 b_w_kinds_of := fun f cdv A outer s F H E ok hr =>
  have sc := sc_w_kinds_of
  (q_cons (sNewD' 1 sc.nd) (q_cons (sFor' PassesOwn.never ok (i_of ok (nCall (ps := ["_law_deck"]) (g := m_w_plots) h_w_plots (hd.glo 56 rfl) bd_eqv hr (by decide) (aC' (nV 0) a_nil))) (gN 2 sc.nd) (q_one (sFor' PassesOwn.never ok (i_of ok (nTup (aC' (r_int) (aC' (nNeg (r_int)) a_nil)))) (gN 3 sc.nd) (q_cons (sSet' 4 (nIx ok (nCall (ps := ["_law_plot", "_law_sign_so"]) (g := m_w_middle) h_w_middle (hd.glo 63 rfl) bd_eqv hr (by decide) (aC' (nV 2) (aC' (nV 3) a_nil))) (r_int)) sc.nd) (q_cons (sSet' 5 (nCall (ps := ["_law_deck", "_law_dot_so", "_law_way_so"]) (g := m_w_bond_at) h_w_bond_at (hd.glo 60 rfl) bd_eqv hr (by decide) (aC' (nV 0) (aC' (r_drop ok (nCall (ps := ["_law_plot"]) (g := m_w_dot) h_w_dot (hd.glo 57 rfl) bd_eqv hr (by decide) (aC' (nV 2) a_nil)) (r_int)) (aC' (nV 4) a_nil)))) sc.nd) (q_one (sPut' 1 ok (nW 1) (nTup (aC' (nV 2) (aC' (nV 3) a_nil))) (nTup (aC' (nV 5) (aC' (nCall (ps := ["_law_plot", "_law_sign_so", "_law_out_so"]) (g := m_w_slab) h_w_slab (hd.glo 64 rfl) bd_eqv hr (by decide) (aC' (nV 2) (aC' (nV 3) (aC' (r_int) a_nil)))) (aC' (nCall (ps := ["_law_plot", "_law_sign_so", "_law_out_so"]) (g := m_w_slab) h_w_slab (hd.glo 64 rfl) bd_eqv hr (by decide) (aC' (nV 2) (aC' (nV 3) (aC' (r_int) a_nil)))) a_nil))))))))))) (q_one (q_ret (nV 1)))))
theorem ok_w_kinds_of {P : Program} {w : World} {K : PySem.W.Frag} {mg : PySem.Str → Option Value} {base : Heap} (hd : Hd K mg) (h_w_plots : Has P w K mg base ("_law_plots", none) 1 ["_law_deck"] (spF (bd0 K w) 1 m_w_plots)) (h_w_slab : Has P w K mg base ("_law_slab", none) 2 ["_law_plot", "_law_sign_so", "_law_out_so"] (spF (bd0 K w) 3 m_w_slab)) (h_w_bond_at : Has P w K mg base ("_law_bond_at", none) 2 ["_law_deck", "_law_dot_so", "_law_way_so"] (spF (bd0 K w) 3 m_w_bond_at)) (h_w_dot : Has P w K mg base ("_law_dot", none) 1 ["_law_plot"] (spF (bd0 K w) 1 m_w_dot)) (h_w_middle : Has P w K mg base ("_law_middle", none) 1 ["_law_plot", "_law_sign_so"] (spF (bd0 K w) 2 m_w_middle)) : Has P w K mg base d_w_kinds_of.at_ 3 ["_law_deck"] (spF (bd0 K w) 1 m_w_kinds_of) := has_fn hd 72 rfl sc_w_kinds_of rfl (fun Fn => FunD.bindsN Fn fun _ _ _ _ _ _ us hl => match us, hl with | [_], _ => rfl) (by_w_kinds_of hd h_w_plots h_w_slab h_w_bond_at h_w_dot h_w_middle)
theorem sc_w_laid : FnScope ["_law_kinds_so", "_law_heap", "_law_signs_so", "_law_found", "_law_plot", "_law_own"] ["_law_kinds_so", "_law_heap", "_law_signs_so"] d_w_laid.scope := ⟨rfl, rfl, rfl, by decide +kernel, rfl, by decide +kernel, by decide +kernel⟩
theorem by_w_laid {P : Program} {w : World} {K : PySem.W.Frag} {mg : PySem.Str → Option Value} {base : Heap} (hd : Hd K mg) : Body P w K mg base ["_law_kinds_so", "_law_heap", "_law_signs_so", "_law_found", "_law_plot", "_law_own"] d_w_laid 0 b_w_laid := fun f cdv A outer s F H E ok hr =>
  have sc := sc_w_laid
  (q_cons (sNewL' 3 a_nil sc.nd) (q_cons (sFor' PassesOwn.never ok (i_of ok (nV 2)) (gN 4 sc.nd) (q_cons (sSet' 5 (nIx ok (nV 0) (nTup (aC' (nV 4) (aC' (nIx ok (nV 2) (nV 4)) a_nil)))) sc.nd) (q_one (sApp' 3 (nW 3) (r_if (nInT ok (nIx ok (nV 5) (r_int)) (nV 1)) (nIx ok (nV 5) (r_int)) (nIx ok (nV 5) (r_int))))))) (q_one (q_ret (nTuple ok (hd.free 81 rfl) (nSorted (.l .i) ok (hd.free 84 rfl) (by decide) (by decide) (nV 3)))))))
theorem ok_w_laid {P : Program} {w : World} {K : PySem.W.Frag} {mg : PySem.Str → Option Value} {base : Heap} (hd : Hd K mg) : Has P w K mg base d_w_laid.at_ 1 ["_law_kinds_so", "_law_heap", "_law_signs_so"] (spF (bd0 K w) 3 m_w_laid) := has_fn hd 73 rfl sc_w_laid rfl (fun Fn => FunD.bindsN Fn fun _ _ _ _ _ _ us hl => match us, hl with | [_, _, _], _ => rfl) (by_w_laid hd)
theorem sc_w_all_bits : FnScope ["_law_many_so", "_law_found", "_law_lap", "_law_own"] ["_law_many_so"] d_w_all_bits.scope := ⟨rfl, rfl, rfl, by decide +kernel, rfl, by decide +kernel, by decide +kernel⟩
theorem by_w_all_bits {P : Program} {w : World} {K : PySem.W.Frag} {mg : PySem.Str → Option Value} {base : Heap} (hd : Hd K mg) : Body P w K mg base ["_law_many_so", "_law_found", "_law_lap", "_law_own"] d_w_all_bits 0 b_w_all_bits := fun f cdv A outer s F H E ok hr =>
  have sc := sc_w_all_bits
  (q_cons (sSet' 1 (r_lst (aC' (nTup a_nil) a_nil)) sc.nd) (q_cons (sFor' PassesOwn.never ok (iRange' (hd.free 83 rfl) (nV 0)) (gN 2 sc.nd) (q_one (sSet' 1 (nAdd ok (r_lc ok sc.nd (i_of ok (nV 1)) (blkOk_by (own := [("_law_own", 3)]) rfl) rfl rfl (fun _ _ _ _ _ => (gN 3 sc.nd)) (fun _ _ _ _ _ => pts_nil) (fun _ _ _ _ _ => (nAdd ok.blk (nV 3) (nTup (aC' (r_int) a_nil)))) (fun _ => rfl)) (r_lc ok sc.nd (i_of ok (nV 1)) (blkOk_by (own := [("_law_own", 3)]) rfl) rfl rfl (fun _ _ _ _ _ => (gN 3 sc.nd)) (fun _ _ _ _ _ => pts_nil) (fun _ _ _ _ _ => (nAdd ok.blk (nV 3) (nTup (aC' (nNeg (r_int)) a_nil)))) (fun _ => rfl))) sc.nd))) (q_one (q_ret (nV 1)))))
theorem ok_w_all_bits {P : Program} {w : World} {K : PySem.W.Frag} {mg : PySem.Str → Option Value} {base : Heap} (hd : Hd K mg) : Has P w K mg base d_w_all_bits.at_ 1 ["_law_many_so"] (spF (bd0 K w) 1 m_w_all_bits) := has_fn hd 74 rfl sc_w_all_bits rfl (fun Fn => FunD.bindsN Fn fun _ _ _ _ _ _ us hl => match us, hl with | [_], _ => rfl) (by_w_all_bits hd)
theorem sc_w_signs_by : FnScope ["_law_rounds_so", "_law_goings_so", "_law_found", "_law_row_so", "_law_sign_so", "_law_plot"] ["_law_rounds_so", "_law_goings_so"] d_w_signs_by.scope := ⟨rfl, rfl, rfl, by decide +kernel, rfl, by decide +kernel, by decide +kernel⟩
theorem by_w_signs_by {P : Program} {w : World} {K : PySem.W.Frag} {mg : PySem.Str → Option Value} {base : Heap} (hd : Hd K mg) : Body P w K mg base ["_law_rounds_so", "_law_goings_so", "_law_found", "_law_row_so", "_law_sign_so", "_law_plot"] d_w_signs_by 0 b_w_signs_by := fun f cdv A outer s F H E ok hr =>
  have sc := sc_w_signs_by
  (q_cons (sNewD' 2 sc.nd) (q_cons (sFor' PassesOwn.never ok (iZip' ok (hd.free 93 rfl) (nV 0) (nV 1)) (gT ok (gC (gN 3 sc.nd) (gC (gN 4 sc.nd) gs_nil))) (q_one (sFor' PassesOwn.never ok (i_of ok (nV 3)) (gN 5 sc.nd) (q_one (sPut' 2 ok (nW 2) (nV 5) (nV 4)))))) (q_one (q_ret (nV 2)))))
theorem ok_w_signs_by {P : Program} {w : World} {K : PySem.W.Frag} {mg : PySem.Str → Option Value} {base : Heap} (hd : Hd K mg) : Has P w K mg base d_w_signs_by.at_ 1 ["_law_rounds_so", "_law_goings_so"] (spF (bd0 K w) 2 m_w_signs_by) := has_fn hd 75 rfl sc_w_signs_by rfl (fun Fn => FunD.bindsN Fn fun _ _ _ _ _ _ us hl => match us, hl with | [_, _], _ => rfl) (by_w_signs_by hd)
theorem sc_w_all_spreads : FnScope ["_law_deck", "_law_kinds_so", "_law_found", "_law_heap", "_law_rounds_so", "_law_goings_so"] ["_law_deck"] d_w_all_spreads.scope := ⟨rfl, rfl, rfl, by decide +kernel, rfl, by decide +kernel, by decide +kernel⟩
theorem by_w_all_spreads {P : Program} {w : World} {K : PySem.W.Frag} {mg : PySem.Str → Option Value} {base : Heap} (hd : Hd K mg) (h_w_lots : Has P w K mg base ("_law_lots", none) 3 ["_law_deck"] (spF (bd0 K w) 1 m_w_lots)) (h_w_all_bits : Has P w K mg base ("_law_all_bits", none) 1 ["_law_many_so"] (spF (bd0 K w) 1 m_w_all_bits)) (h_w_laid : Has P w K mg base ("_law_laid", none) 1 ["_law_kinds_so", "_law_heap", "_law_signs_so"] (spF (bd0 K w) 3 m_w_laid)) (h_w_signs_by : Has P w K mg base ("_law_signs_by", none) 1 ["_law_rounds_so", "_law_goings_so"] (spF (bd0 K w) 2 m_w_signs_by)) (h_w_rounds : Has P w K mg base ("_law_rounds", none) 5 ["_law_deck", "_law_heap"] (spF (bd0 K w) 2 m_w_rounds)) (h_w_kinds_of : Has P w K mg base ("_law_kinds_of", none) 3 ["_law_deck"] (spF (bd0 K w) 1 m_w_kinds_of)) : Body P w K mg base ["_law_deck", "_law_kinds_so", "_law_found", "_law_heap", "_law_rounds_so", "_law_goings_so"] d_w_all_spreads 5 b_w_all_spreads := fun f cdv A outer s F H E ok hr =>
  have sc := sc_w_all_spreads
  (q_cons (q_par2 ok sc.nd (i := 1) (j := 2) rfl rfl (by decide) rfl rfl (pC' (nCall (ps := ["_law_deck"]) (g := m_w_kinds_of) h_w_kinds_of (hd.glo 68 rfl) bd_eqv hr (by decide) (aC' (nV 0) a_nil)) (pL' p_nil)) rfl rfl) (q_cons (sFor' PassesOwn.never ok (i_of ok (nCall (ps := ["_law_deck"]) (g := m_w_lots) h_w_lots (hd.glo 67 rfl) bd_eqv hr (by decide) (aC' (nV 0) a_nil))) (gN 3 sc.nd) (q_cons (sSet' 4 (nCall (ps := ["_law_deck", "_law_heap"]) (g := m_w_rounds) h_w_rounds (hd.glo 66 rfl) bd_eqv hr (by decide) (aC' (nV 0) (aC' (nV 3) a_nil))) sc.nd) (q_one (sFor' PassesOwn.never ok (i_of ok (nCall (ps := ["_law_many_so"]) (g := m_w_all_bits) h_w_all_bits (hd.glo 70 rfl) bd_eqv hr (by decide) (aC' (nLen ok (hd.free 79 rfl) (nV 4)) a_nil))) (gN 5 sc.nd) (q_one (sApp' 2 (nW 2) (nCall (ps := ["_law_kinds_so", "_law_heap", "_law_signs_so"]) (g := m_w_laid) h_w_laid (hd.glo 69 rfl) bd_eqv hr (by decide) (aC' (nV 1) (aC' (nV 3) (aC' (nCall (ps := ["_law_rounds_so", "_law_goings_so"]) (g := m_w_signs_by) h_w_signs_by (hd.glo 71 rfl) bd_eqv hr (by decide) (aC' (nV 4) (aC' (nV 5) a_nil))) a_nil)))))))))) (q_one (q_ret (nSorted (.l (.l .i)) ok (hd.free 84 rfl) (by decide) (by decide) (nV 2))))))
theorem ok_w_all_spreads {P : Program} {w : World} {K : PySem.W.Frag} {mg : PySem.Str → Option Value} {base : Heap} (hd : Hd K mg) (h_w_lots : Has P w K mg base ("_law_lots", none) 3 ["_law_deck"] (spF (bd0 K w) 1 m_w_lots)) (h_w_all_bits : Has P w K mg base ("_law_all_bits", none) 1 ["_law_many_so"] (spF (bd0 K w) 1 m_w_all_bits)) (h_w_laid : Has P w K mg base ("_law_laid", none) 1 ["_law_kinds_so", "_law_heap", "_law_signs_so"] (spF (bd0 K w) 3 m_w_laid)) (h_w_signs_by : Has P w K mg base ("_law_signs_by", none) 1 ["_law_rounds_so", "_law_goings_so"] (spF (bd0 K w) 2 m_w_signs_by)) (h_w_rounds : Has P w K mg base ("_law_rounds", none) 5 ["_law_deck", "_law_heap"] (spF (bd0 K w) 2 m_w_rounds)) (h_w_kinds_of : Has P w K mg base ("_law_kinds_of", none) 3 ["_law_deck"] (spF (bd0 K w) 1 m_w_kinds_of)) : Has P w K mg base d_w_all_spreads.at_ 6 ["_law_deck"] (spF (bd0 K w) 1 m_w_all_spreads) := has_fn hd 76 rfl sc_w_all_spreads rfl (fun Fn => FunD.bindsN Fn fun _ _ _ _ _ _ us hl => match us, hl with | [_], _ => rfl) (by_w_all_spreads hd h_w_lots h_w_all_bits h_w_laid h_w_signs_by h_w_rounds h_w_kinds_of)
theorem sc_w_row : FnScope ["_law_spread", "_law_plot", "_law_own", "_law_its"] ["_law_spread"] d_w_row.scope := ⟨rfl, rfl, rfl, by decide +kernel, rfl, by decide +kernel, by decide +kernel⟩
theorem by_w_row {P : Program} {w : World} {K : PySem.W.Frag} {mg : PySem.Str → Option Value} {base : Heap} (hd : Hd K mg) : Body P w K mg base ["_law_spread", "_law_plot", "_law_own", "_law_its"] d_w_row 0 b_w_row := fun f cdv A outer s F H E ok hr =>
  have sc := sc_w_row
  (q_one (q_ret (nTuple ok (hd.free 81 rfl) (r_lc ok sc.nd (i_of ok (nSorted (.l (.l .i)) ok (hd.free 84 rfl) (by decide) (by decide) (r_lc ok sc.nd (i_of ok (nV 0)) (blkOk_by (own := [("_law_its", 3)]) rfl) rfl rfl (fun _ _ _ _ _ => (gN 3 sc.nd)) (fun _ _ _ _ _ => pts_nil) (fun _ _ _ _ _ => (nTup (aC' (nTup (aC' (nDiv ok.blk (nIx ok.blk (nV 3) (r_int)) (r_int)) (aC' (nDiv ok.blk (nIx ok.blk (nV 3) (r_int)) (r_int)) a_nil))) (aC' (nV 3) a_nil)))) (fun _ => rfl)))) (blkOk_by (own := [("_law_plot", 1), ("_law_own", 2)]) rfl) rfl rfl (fun _ _ _ _ _ => (gT ok.blk (gC (gN 1 sc.nd) (gC (gN 2 sc.nd) gs_nil)))) (fun _ _ _ _ _ => pts_nil) (fun _ _ _ _ _ => (nV 2)) (fun _ => rfl)))))
theorem ok_w_row {P : Program} {w : World} {K : PySem.W.Frag} {mg : PySem.Str → Option Value} {base : Heap} (hd : Hd K mg) : Has P w K mg base d_w_row.at_ 1 ["_law_spread"] (spF (bd0 K w) 1 m_w_row) := has_fn hd 77 rfl sc_w_row rfl (fun Fn => FunD.bindsN Fn fun _ _ _ _ _ _ us hl => match us, hl with | [_], _ => rfl) (by_w_row hd)
theorem sc_w_rows : FnScope ["_law_deck", "_law_own"] ["_law_deck"] d_w_rows.scope := ⟨rfl, rfl, rfl, by decide +kernel, rfl, by decide +kernel, by decide +kernel⟩
theorem by_w_rows {P : Program} {w : World} {K : PySem.W.Frag} {mg : PySem.Str → Option Value} {base : Heap} (hd : Hd K mg) (h_w_all_spreads : Has P w K mg base ("_law_all_spreads", none) 6 ["_law_deck"] (spF (bd0 K w) 1 m_w_all_spreads)) (h_w_row : Has P w K mg base ("_law_row", none) 1 ["_law_spread"] (spF (bd0 K w) 1 m_w_row)) : Body P w K mg base ["_law_deck", "_law_own"] d_w_rows 6 b_w_rows := fun f cdv A outer s F H E ok hr =>
  have sc := sc_w_rows
  (q_one (q_ret (nSorted (.l (.l .i)) ok (hd.free 84 rfl) (by decide) (by decide) (r_lc ok sc.nd (i_of ok (nCall (ps := ["_law_deck"]) (g := m_w_all_spreads) h_w_all_spreads (hd.glo 72 rfl) bd_eqv hr (by decide) (aC' (nV 0) a_nil))) (blkOk_by (own := [("_law_own", 1)]) rfl) rfl rfl (fun _ _ _ _ _ => (gN 1 sc.nd)) (fun _ _ _ _ _ => pts_nil) (fun _ _ _ _ _ => (nCall (ps := ["_law_spread"]) (g := m_w_row) h_w_row (hd.glo 73 rfl) bd_eqv (by exact hr) (by decide) (aC' (nV 1) a_nil))) (fun _ => rfl)))))
theorem ok_w_rows {P : Program} {w : World} {K : PySem.W.Frag} {mg : PySem.Str → Option Value} {base : Heap} (hd : Hd K mg) (h_w_all_spreads : Has P w K mg base ("_law_all_spreads", none) 6 ["_law_deck"] (spF (bd0 K w) 1 m_w_all_spreads)) (h_w_row : Has P w K mg base ("_law_row", none) 1 ["_law_spread"] (spF (bd0 K w) 1 m_w_row)) : Has P w K mg base d_w_rows.at_ 7 ["_law_deck"] (spF (bd0 K w) 1 m_w_rows) := has_fn hd 78 rfl sc_w_rows rfl (fun Fn => FunD.bindsN Fn fun _ _ _ _ _ _ us hl => match us, hl with | [_], _ => rfl) (by_w_rows hd h_w_all_spreads h_w_row)
theorem sc_Rules_crossed : FnScope ["self", "found", "face", "height", "i", "j", "sign", "tie"] ["self"] d_Rules_crossed.scope := ⟨rfl, rfl, rfl, by decide +kernel, rfl, by decide +kernel, by decide +kernel⟩
theorem by_Rules_crossed {P : Program} {w : World} {K : PySem.W.Frag} {mg : PySem.Str → Option Value} {base : Heap} (hd : Hd K mg) (h_crossed_face : Has P w K mg base ("crossed_face", none) 1 ["face"] (spF (bd0 K w) 1 m_crossed_face)) (hI : HasI P w K mg base 1) : Body P w K mg base ["self", "found", "face", "height", "i", "j", "sign", "tie"] d_Rules_crossed 2 b_Rules_crossed := fun f cdv A outer s F H E ok hr =>
  have sc := sc_Rules_crossed
  (q_cons (sNewI' 1 hd (i1 := 98) (i2 := 102) rfl rfl hI rfl rfl bd_eqv hr (by decide) (r_dc ok sc.nd (iItems' (nFld ok (hd.clz 97 112 113 114 115 rfl rfl rfl rfl rfl) 0 (nV 0))) (blkOk_by (own := [("i", 4), ("j", 5), ("sign", 6)]) rfl) rfl rfl (fun _ _ _ _ _ => (gT ok.blk (gC (gT ok.blk (gC (gN 4 sc.nd) (gC (gN 5 sc.nd) gs_nil))) (gC (gN 6 sc.nd) gs_nil)))) (fun _ _ _ _ _ => (nTup (aC' (nV 5) (aC' (nV 4) a_nil)))) (fun _ _ _ _ _ => (nV 6)) (fun _ => rfl)) (r_lc ok sc.nd (i_of ok (nFld ok (hd.clz 97 112 113 114 115 rfl rfl rfl rfl rfl) 1 (nV 0))) (blkOk_by (own := [("tie", 7)]) rfl) rfl rfl (fun _ _ _ _ _ => (gN 7 sc.nd)) (fun _ _ _ _ _ => pts_nil) (fun _ _ _ _ _ => (nTuple ok.blk (hd.free 81 rfl) (r_lc ok.blk sc.nd (i_of ok.blk (nV 7)) (blkOk_by (own := [("i", 4), ("j", 5)]) rfl) rfl rfl (fun _ _ _ _ _ => (gT ok.blk.blk (gC (gN 4 sc.nd) (gC (gN 5 sc.nd) gs_nil)))) (fun _ _ _ _ _ => pts_nil) (fun _ _ _ _ _ => (nTup (aC' (nV 5) (aC' (nV 4) a_nil)))) (fun _ => rfl)))) (fun _ => rfl)) sc.nd) (q_cons (sFld' 1 2 ok (hd.clz 97 112 113 114 115 rfl rfl rfl rfl rfl) (nW 1) (r_dc ok sc.nd (iItems' (nFld ok (hd.clz 97 112 113 114 115 rfl rfl rfl rfl rfl) 2 (nV 0))) (blkOk_by (own := [("face", 2), ("height", 3)]) rfl) rfl rfl (fun _ _ _ _ _ => (gT ok.blk (gC (gN 2 sc.nd) (gC (gN 3 sc.nd) gs_nil)))) (fun _ _ _ _ _ => (nCall (ps := ["face"]) (g := m_crossed_face) h_crossed_face (hd.glo 31 rfl) bd_eqv (by exact hr) (by decide) (aC' (nV 2) a_nil))) (fun _ _ _ _ _ => (nV 3)) (fun _ => rfl))) (q_cons (sFld' 1 3 ok (hd.clz 97 112 113 114 115 rfl rfl rfl rfl rfl) (nW 1) (r_dc ok sc.nd (iItems' (nFld ok (hd.clz 97 112 113 114 115 rfl rfl rfl rfl rfl) 3 (nV 0))) (blkOk_by (own := [("face", 2), ("height", 3)]) rfl) rfl rfl (fun _ _ _ _ _ => (gT ok.blk (gC (gN 2 sc.nd) (gC (gN 3 sc.nd) gs_nil)))) (fun _ _ _ _ _ => (nCall (ps := ["face"]) (g := m_crossed_face) h_crossed_face (hd.glo 31 rfl) bd_eqv (by exact hr) (by decide) (aC' (nV 2) a_nil))) (fun _ _ _ _ _ => (nV 3)) (fun _ => rfl))) (q_one (q_ret (nV 1))))))
theorem ok_Rules_crossed {P : Program} {w : World} {K : PySem.W.Frag} {mg : PySem.Str → Option Value} {base : Heap} (hd : Hd K mg) (h_crossed_face : Has P w K mg base ("crossed_face", none) 1 ["face"] (spF (bd0 K w) 1 m_crossed_face)) (hI : HasI P w K mg base 1) : Has P w K mg base d_Rules_crossed.at_ 3 ["self"] (spF (bd0 K w) 1 m_Rules_crossed) := has_fn hd 34 rfl sc_Rules_crossed rfl (fun Fn => FunD.bindsN Fn fun _ _ _ _ _ _ us hl => match us, hl with | [_], _ => rfl) (by_Rules_crossed hd h_crossed_face hI)
theorem sc_sum_by : FnScope ["floor", "rules", "weight", "many", "high", "now", "i", "j"] ["floor", "rules", "weight"] d_sum_by.scope := ⟨rfl, rfl, rfl, by decide +kernel, rfl, by decide +kernel, by decide +kernel⟩
theorem by_sum_by {P : Program} {w : World} {K : PySem.W.Frag} {mg : PySem.Str → Option Value} {base : Heap} {j : Nat} {g : List D → Option D} (hj : 3 ≤ j) (hd : Hd K mg) (h_gone_on : Has P w K mg base ("gone_on", none) 3 ["floor", "rules", "now", "step", "i", "j", "weight"] (spF (bd0 K w) 7 m_gone_on)) (h_Rules_crossed : Has P w K mg base ("Rules", some "crossed") 3 ["self"] (spF (bd0 K w) 1 m_Rules_crossed)) (me : Has P w K mg base ("sum_by", none) j ["floor", "rules", "weight"] (spF (bd0 K w) 3 g)) (hg : ∀ ds d, g ds = some d → ds.length = 3) : Body P w K mg base ["floor", "rules", "weight", "many", "high", "now", "i", "j"] d_sum_by j (b_sum_by g) := fun f cdv A outer s F H E ok hr =>
  have sc := sc_sum_by
  (q_cons (q_if (r_isNT (nV 1)) (q_one (q_ret (r_int))) q_nil) (q_cons (q_if (nLtT ok (nIx ok (nV 0) (r_int)) (nIx ok (nV 0) (r_int))) (q_one (q_ret (nCall (ps := ["floor", "rules", "weight"]) (g := g) me (hd.glo 35 rfl) bd_eqv hr (Nat.le_refl _) (aC' (nTup (aC' (nIx ok (nV 0) (r_int)) (aC' (nIx ok (nV 0) (r_int)) a_nil))) (aC' (nMeth0 (ps := ["self"]) (g := m_Rules_crossed) hd 111 rfl h_Rules_crossed rfl (by decide) hi_Rules_crossed (fun _ _ h => runF_len h) bd_eqv hr (Nat.le_trans (by decide) hj) ok (hd.clz 97 112 113 114 115 rfl rfl rfl rfl rfl) (nV 1)) (aC' (nV 2) a_nil))) hg))) q_nil) (q_cons (q_unp (nV 0) (gT ok (gC (gN 3 sc.nd) (gC (gN 4 sc.nd) gs_nil))) rfl rfl rfl) (q_cons (sSet' 5 (nD1 ok (nTup (aC' (nMul ok (nTup (aC' (r_int) a_nil)) (nV 4)) (aC' (nMul ok (nTup (aC' (r_int) a_nil)) (nSub ok (nV 4) (r_int))) a_nil))) (r_int)) sc.nd) (q_cons (sFor' PassesOwn.never ok (iRange' (hd.free 83 rfl) (nV 3)) (gN 6 sc.nd) (q_cons (sFor' PassesOwn.never ok (iRange' (hd.free 83 rfl) (nV 4)) (gN 7 sc.nd) (q_one (sSet' 5 (nCall (ps := ["floor", "rules", "now", "step", "i", "j", "weight"]) (g := m_gone_on) h_gone_on (hd.glo 34 rfl) bd_eqv hr (Nat.le_trans (by decide) hj) (aC' (nV 0) (aC' (nV 1) (aC' (nV 5) (aC' (nGlob (d := .fn 0) (v := .ref (He.ga K "dot_steps")) (hd.glo 32 rfl) rfl (fun F => by rw [Rep] <;> rfl)) (aC' (nV 6) (aC' (nV 7) (aC' (nV 2) a_nil)))))))) sc.nd))) (q_one (sFor' PassesOwn.never ok (iRange' (hd.free 83 rfl) (nSub ok (nV 4) (r_int))) (gN 7 sc.nd) (q_one (sSet' 5 (nCall (ps := ["floor", "rules", "now", "step", "i", "j", "weight"]) (g := m_gone_on) h_gone_on (hd.glo 34 rfl) bd_eqv hr (Nat.le_trans (by decide) hj) (aC' (nV 0) (aC' (nV 1) (aC' (nV 5) (aC' (nGlob (d := .fn 1) (v := .ref (He.ga K "inner_steps")) (hd.glo 33 rfl) rfl (fun F => by rw [Rep] <;> rfl)) (aC' (nV 6) (aC' (nV 7) (aC' (nV 2) a_nil)))))))) sc.nd)))))) (q_one (q_ret (nSumV ok (hd.free 90 rfl) (nV 5)))))))))
theorem sc_many_in : FnScope ["floor", "told"] ["floor", "told"] d_many_in.scope := ⟨rfl, rfl, rfl, by decide +kernel, rfl, by decide +kernel, by decide +kernel⟩
theorem by_many_in {P : Program} {w : World} {K : PySem.W.Frag} {mg : PySem.Str → Option Value} {base : Heap} (hd : Hd K mg) (h_sum_by : Has P w K mg base ("sum_by", none) 9 ["floor", "rules", "weight"] (spF (bd0 K w) 3 (m_sum_by 6))) (h_rules_in : Has P w K mg base ("rules_in", none) 5 ["floor", "told"] (spF (bd0 K w) 2 m_rules_in)) (h_sure_short : Has P w K mg base ("sure_short", none) 1 ["floor"] (spF (bd0 K w) 1 m_sure_short)) : Body P w K mg base ["floor", "told"] d_many_in 9 b_many_in := fun f cdv A outer s F H E ok hr =>
  have sc := sc_many_in
  (q_one (q_ret (nCall (ps := ["floor", "rules", "weight"]) (g := m_sum_by 6) h_sum_by (hd.glo 35 rfl) bd_eqv hr (by decide) (aC' (nCall (ps := ["floor"]) (g := m_sure_short) h_sure_short (hd.glo 38 rfl) bd_eqv hr (by decide) (aC' (nV 0) a_nil)) (aC' (nCall (ps := ["floor", "told"]) (g := m_rules_in) h_rules_in (hd.glo 36 rfl) bd_eqv hr (by decide) (aC' (nV 0) (aC' (nV 1) a_nil))) (aC' (r_int) a_nil))))))
theorem ok_many_in {P : Program} {w : World} {K : PySem.W.Frag} {mg : PySem.Str → Option Value} {base : Heap} (hd : Hd K mg) (h_sum_by : Has P w K mg base ("sum_by", none) 9 ["floor", "rules", "weight"] (spF (bd0 K w) 3 (m_sum_by 6))) (h_rules_in : Has P w K mg base ("rules_in", none) 5 ["floor", "told"] (spF (bd0 K w) 2 m_rules_in)) (h_sure_short : Has P w K mg base ("sure_short", none) 1 ["floor"] (spF (bd0 K w) 1 m_sure_short)) : Has P w K mg base d_many_in.at_ 10 ["floor", "told"] (spF (bd0 K w) 2 m_many_in) := has_fn hd 41 rfl sc_many_in rfl (fun Fn => FunD.bindsN Fn fun _ _ _ _ _ _ us hl => match us, hl with | [_, _], _ => rfl) (by_many_in hd h_sum_by h_rules_in h_sure_short)
theorem sc_many_begun : FnScope ["floor", "row"] ["floor", "row"] d_many_begun.scope := ⟨rfl, rfl, rfl, by decide +kernel, rfl, by decide +kernel, by decide +kernel⟩
theorem by_many_begun {P : Program} {w : World} {K : PySem.W.Frag} {mg : PySem.Str → Option Value} {base : Heap} (hd : Hd K mg) (h_many_in : Has P w K mg base ("many_in", none) 10 ["floor", "told"] (spF (bd0 K w) 2 m_many_in)) : Body P w K mg base ["floor", "row"] d_many_begun 10 b_many_begun := fun f cdv A outer s F H E ok hr =>
  have sc := sc_many_begun
  (q_one (q_ret (nCall (ps := ["floor", "told"]) (g := m_many_in) h_many_in (hd.glo 37 rfl) bd_eqv hr (by decide) (aC' (nV 0) (aC' (nTuple ok (hd.free 81 rfl) (nSorted (.l .i) ok (hd.free 84 rfl) (by decide) (by decide) (nV 1))) a_nil)))))
theorem ok_many_begun {P : Program} {w : World} {K : PySem.W.Frag} {mg : PySem.Str → Option Value} {base : Heap} (hd : Hd K mg) (h_many_in : Has P w K mg base ("many_in", none) 10 ["floor", "told"] (spF (bd0 K w) 2 m_many_in)) : Has P w K mg base d_many_begun.at_ 11 ["floor", "row"] (spF (bd0 K w) 2 m_many_begun) := has_fn hd 45 rfl sc_many_begun rfl (fun Fn => FunD.bindsN Fn fun _ _ _ _ _ _ us hl => match us, hl with | [_, _], _ => rfl) (by_many_begun hd h_many_in)
theorem sc_begun_rows : FnScope ["floor", "row", "blocks", "found", "piece", "many"] ["floor", "row"] d_begun_rows.scope := ⟨rfl, rfl, rfl, by decide +kernel, rfl, by decide +kernel, by decide +kernel⟩
theorem by_begun_rows {P : Program} {w : World} {K : PySem.W.Frag} {mg : PySem.Str → Option Value} {base : Heap} (hd : Hd K mg) (h_four_in : Has P w K mg base ("four_in", none) 5 ["floor", "block"] (spF (bd0 K w) 2 m_four_in)) (h_many_begun : Has P w K mg base ("many_begun", none) 11 ["floor", "row"] (spF (bd0 K w) 2 m_many_begun)) (h_blocks_in : Has P w K mg base ("blocks_in", none) 2 ["floor"] (spF (bd0 K w) 1 m_blocks_in)) : Body P w K mg base ["floor", "row", "blocks", "found", "piece", "many"] d_begun_rows 11 b_begun_rows := fun f cdv A outer s F H E ok hr =>
  have sc := sc_begun_rows
  (q_cons (q_par2 ok sc.nd (i := 2) (j := 3) rfl rfl (by decide) rfl rfl (pC' (nCall (ps := ["floor"]) (g := m_blocks_in) h_blocks_in (hd.glo 12 rfl) bd_eqv hr (by decide) (aC' (nV 0) a_nil)) (pL' p_nil)) rfl rfl) (q_cons (q_if (nEqT ok (nLen ok (hd.free 79 rfl) (nV 1)) (nLen ok (hd.free 79 rfl) (nV 2))) (q_one (q_ret (r_lst a_nil))) q_nil) (q_cons (sFor' PassesOwn.never ok (i_of ok (nSorted (.l .i) ok (hd.free 84 rfl) (by decide) (by decide) (nCall (ps := ["floor", "block"]) (g := m_four_in) h_four_in (hd.glo 23 rfl) bd_eqv hr (by decide) (aC' (nV 0) (aC' (nIx ok (nV 2) (nLen ok (hd.free 79 rfl) (nV 1))) a_nil))))) (gN 4 sc.nd) (q_cons (sSet' 5 (nCall (ps := ["floor", "row"]) (g := m_many_begun) h_many_begun (hd.glo 41 rfl) bd_eqv hr (by decide) (aC' (nV 0) (aC' (nTup (aS' ok (nV 1) (aC' (nV 4) a_nil))) a_nil))) sc.nd) (q_one (q_if (nGtIT ok (nV 5) (r_int)) (q_one (sApp' 3 (nW 3) (nTup (aC' (nV 4) (aC' (nV 5) a_nil))))) q_nil)))) (q_one (q_ret (nV 3))))))
theorem ok_begun_rows {P : Program} {w : World} {K : PySem.W.Frag} {mg : PySem.Str → Option Value} {base : Heap} (hd : Hd K mg) (h_four_in : Has P w K mg base ("four_in", none) 5 ["floor", "block"] (spF (bd0 K w) 2 m_four_in)) (h_many_begun : Has P w K mg base ("many_begun", none) 11 ["floor", "row"] (spF (bd0 K w) 2 m_many_begun)) (h_blocks_in : Has P w K mg base ("blocks_in", none) 2 ["floor"] (spF (bd0 K w) 1 m_blocks_in)) : Has P w K mg base d_begun_rows.at_ 12 ["floor", "row"] (spF (bd0 K w) 2 m_begun_rows) := has_fn hd 46 rfl sc_begun_rows rfl (fun Fn => FunD.bindsN Fn fun _ _ _ _ _ _ us hl => match us, hl with | [_, _], _ => rfl) (by_begun_rows hd h_four_in h_many_begun h_blocks_in)
theorem sc_number_in : FnScope ["floor", "row", "found", "place", "own", "piece", "many"] ["floor", "row"] d_number_in.scope := ⟨rfl, rfl, rfl, by decide +kernel, rfl, by decide +kernel, by decide +kernel⟩
theorem by_number_in {P : Program} {w : World} {K : PySem.W.Frag} {mg : PySem.Str → Option Value} {base : Heap} (hd : Hd K mg) (h_begun_rows : Has P w K mg base ("begun_rows", none) 12 ["floor", "row"] (spF (bd0 K w) 2 t_begun_rows)) : Body P w K mg base ["floor", "row", "found", "place", "own", "piece", "many"] d_number_in 12 b_number_in := fun f cdv A outer s F H E ok hr =>
  have sc := sc_number_in
  (q_cons (sSet' 2 (r_int) sc.nd) (q_cons (sFor' PassesOwn.never ok (iEnum' ok (hd.free 92 rfl) (nV 1)) (gT ok (gC (gN 3 sc.nd) (gC (gN 4 sc.nd) gs_nil))) (q_one (sAug' 2 (nSum ok (hd.free 90 rfl) (r_lc ok sc.nd (i_of ok (nCall (ps := ["floor", "row"]) (g := t_begun_rows) h_begun_rows (hd.glo 42 rfl) bd_eqv hr (by decide) (aC' (nV 0) (aC' (r_take ok (nV 1) (nV 3)) a_nil)) (fun _ _ h => t_begun_len h))) (blkOk_by (own := [("piece", 5), ("many", 6)]) rfl) rfl rfl (fun _ _ _ _ _ => (gT ok.blk (gC (gN 5 sc.nd) (gC (gN 6 sc.nd) gs_nil)))) (fun _ _ _ _ _ => pts_one (nLtT ok.blk (nV 5) (nV 4))) (fun _ _ _ _ _ => (nV 6)) (fun _ => rfl))) ip_add v_addI sc.nd))) (q_one (q_ret (nV 2)))))
theorem ok_number_in {P : Program} {w : World} {K : PySem.W.Frag} {mg : PySem.Str → Option Value} {base : Heap} (hd : Hd K mg) (h_begun_rows : Has P w K mg base ("begun_rows", none) 12 ["floor", "row"] (spF (bd0 K w) 2 t_begun_rows)) : Has P w K mg base d_number_in.at_ 13 ["floor", "row"] (spF (bd0 K w) 2 m_number_in) := has_fn hd 47 rfl sc_number_in rfl (fun Fn => FunD.bindsN Fn fun _ _ _ _ _ _ us hl => match us, hl with | [_, _], _ => rfl) (by_number_in hd h_begun_rows)
theorem sc_row_at : FnScope ["floor", "number", "found", "left", "_", "piece", "many"] ["floor", "number"] d_row_at.scope := ⟨rfl, rfl, rfl, by decide +kernel, rfl, by decide +kernel, by decide +kernel⟩
theorem by_row_at {P : Program} {w : World} {K : PySem.W.Frag} {mg : PySem.Str → Option Value} {base : Heap} (hd : Hd K mg) (h_blocks_in : Has P w K mg base ("blocks_in", none) 2 ["floor"] (spF (bd0 K w) 1 m_blocks_in)) (h_begun_rows : Has P w K mg base ("begun_rows", none) 12 ["floor", "row"] (spF (bd0 K w) 2 t_begun_rows)) (h_many_begun : Has P w K mg base ("many_begun", none) 11 ["floor", "row"] (spF (bd0 K w) 2 t_many_begun)) : Body P w K mg base ["floor", "number", "found", "left", "_", "piece", "many"] d_row_at 12 b_row_at := fun f cdv A outer s F H E ok hr =>
  have sc := sc_row_at
  (q_cons (q_if (nGeIT ok (nV 1) (nCall (ps := ["floor", "row"]) (g := t_many_begun) h_many_begun (hd.glo 41 rfl) bd_eqv hr (by decide) (aC' (nV 0) (aC' (nTup a_nil) a_nil)) (fun _ _ h => t_many_len h))) (q_one sEx') q_nil) (q_cons (q_par2 ok sc.nd (i := 2) (j := 3) rfl rfl (by decide) rfl rfl (pC' (nTup a_nil) (pC' (nV 1) p_nil)) rfl rfl) (q_cons (sFor' PassesOwn.never ok (i_of ok (nCall (ps := ["floor"]) (g := m_blocks_in) h_blocks_in (hd.glo 12 rfl) bd_eqv hr (by decide) (aC' (nV 0) a_nil))) (gN 4 sc.nd) (q_one (sFor' PassesOwn.never ok (i_of ok (nCall (ps := ["floor", "row"]) (g := t_begun_rows) h_begun_rows (hd.glo 42 rfl) bd_eqv hr (by decide) (aC' (nV 0) (aC' (nV 2) a_nil)) (fun _ _ h => t_begun_len h))) (gT ok (gC (gN 5 sc.nd) (gC (gN 6 sc.nd) gs_nil))) (q_cons (q_if (nLtT ok (nV 3) (nV 6)) (q_cons (sSet' 2 (nTup (aS' ok (nV 2) (aC' (nV 5) a_nil))) sc.nd) (q_one q_break)) q_nil) (q_one (sAug' 3 (nV 6) ip_sub v_subI sc.nd)))))) (q_one (q_ret (nV 2))))))
theorem ok_row_at {P : Program} {w : World} {K : PySem.W.Frag} {mg : PySem.Str → Option Value} {base : Heap} (hd : Hd K mg) (h_blocks_in : Has P w K mg base ("blocks_in", none) 2 ["floor"] (spF (bd0 K w) 1 m_blocks_in)) (h_begun_rows : Has P w K mg base ("begun_rows", none) 12 ["floor", "row"] (spF (bd0 K w) 2 t_begun_rows)) (h_many_begun : Has P w K mg base ("many_begun", none) 11 ["floor", "row"] (spF (bd0 K w) 2 t_many_begun)) : Has P w K mg base d_row_at.at_ 13 ["floor", "number"] (spF (bd0 K w) 2 m_row_at) := has_fn hd 48 rfl sc_row_at rfl (fun Fn => FunD.bindsN Fn fun _ _ _ _ _ _ us hl => match us, hl with | [_, _], _ => rfl) (by_row_at hd h_blocks_in h_begun_rows h_many_begun)
theorem sc_first_laying : FnScope ["floor"] ["floor"] d_first_laying.scope := ⟨rfl, rfl, rfl, by decide +kernel, rfl, by decide +kernel, by decide +kernel⟩
theorem by_first_laying {P : Program} {w : World} {K : PySem.W.Frag} {mg : PySem.Str → Option Value} {base : Heap} (hd : Hd K mg) (h_laying_by_row : Has P w K mg base ("laying_by_row", none) 1 ["row"] (spF (bd0 K w) 1 m_laying_by_row)) (h_row_at : Has P w K mg base ("row_at", none) 13 ["floor", "number"] (spF (bd0 K w) 2 m_row_at)) (h_sure_floor : Has P w K mg base ("sure_floor", none) 7 ["floor"] (spF (bd0 K w) 1 m_sure_floor)) : Body P w K mg base ["floor"] d_first_laying 13 b_first_laying := fun f cdv A outer s F H E ok hr =>
  have sc := sc_first_laying
  (q_one (q_ret (nCall (ps := ["row"]) (g := m_laying_by_row) h_laying_by_row (hd.glo 40 rfl) bd_eqv hr (by decide) (aC' (nCall (ps := ["floor", "number"]) (g := m_row_at) h_row_at (hd.glo 44 rfl) bd_eqv hr (by decide) (aC' (nCall (ps := ["floor"]) (g := m_sure_floor) h_sure_floor (hd.glo 9 rfl) bd_eqv hr (by decide) (aC' (nV 0) a_nil)) (aC' (r_int) a_nil))) a_nil))))
theorem ok_first_laying {P : Program} {w : World} {K : PySem.W.Frag} {mg : PySem.Str → Option Value} {base : Heap} (hd : Hd K mg) (h_laying_by_row : Has P w K mg base ("laying_by_row", none) 1 ["row"] (spF (bd0 K w) 1 m_laying_by_row)) (h_row_at : Has P w K mg base ("row_at", none) 13 ["floor", "number"] (spF (bd0 K w) 2 m_row_at)) (h_sure_floor : Has P w K mg base ("sure_floor", none) 7 ["floor"] (spF (bd0 K w) 1 m_sure_floor)) : Has P w K mg base d_first_laying.at_ 14 ["floor"] (spF (bd0 K w) 1 m_first_laying) := has_fn hd 49 rfl sc_first_laying rfl (fun Fn => FunD.bindsN Fn fun _ _ _ _ _ _ us hl => match us, hl with | [_], _ => rfl) (by_first_laying hd h_laying_by_row h_row_at h_sure_floor)
theorem sc_last_laying : FnScope ["floor", "own"] ["floor"] d_last_laying.scope := ⟨rfl, rfl, rfl, by decide +kernel, rfl, by decide +kernel, by decide +kernel⟩
theorem by_last_laying {P : Program} {w : World} {K : PySem.W.Frag} {mg : PySem.Str → Option Value} {base : Heap} (hd : Hd K mg) (h_laying_by_row : Has P w K mg base ("laying_by_row", none) 1 ["row"] (spF (bd0 K w) 1 m_laying_by_row)) (h_row_at : Has P w K mg base ("row_at", none) 13 ["floor", "number"] (spF (bd0 K w) 2 m_row_at)) (h_many_begun : Has P w K mg base ("many_begun", none) 11 ["floor", "row"] (spF (bd0 K w) 2 t_many_begun)) (h_sure_floor : Has P w K mg base ("sure_floor", none) 7 ["floor"] (spF (bd0 K w) 1 m_sure_floor)) : Body P w K mg base ["floor", "own"] d_last_laying 13 b_last_laying := fun f cdv A outer s F H E ok hr =>
  have sc := sc_last_laying
  (q_cons (sSet' 1 (nCall (ps := ["floor"]) (g := m_sure_floor) h_sure_floor (hd.glo 9 rfl) bd_eqv hr (by decide) (aC' (nV 0) a_nil)) sc.nd) (q_one (q_ret (nCall (ps := ["row"]) (g := m_laying_by_row) h_laying_by_row (hd.glo 40 rfl) bd_eqv hr (by decide) (aC' (nCall (ps := ["floor", "number"]) (g := m_row_at) h_row_at (hd.glo 44 rfl) bd_eqv hr (by decide) (aC' (nV 1) (aC' (nSub ok (nCall (ps := ["floor", "row"]) (g := t_many_begun) h_many_begun (hd.glo 41 rfl) bd_eqv hr (by decide) (aC' (nV 1) (aC' (nTup a_nil) a_nil)) (fun _ _ h => t_many_len h)) (r_int)) a_nil))) a_nil)))))
theorem ok_last_laying {P : Program} {w : World} {K : PySem.W.Frag} {mg : PySem.Str → Option Value} {base : Heap} (hd : Hd K mg) (h_laying_by_row : Has P w K mg base ("laying_by_row", none) 1 ["row"] (spF (bd0 K w) 1 m_laying_by_row)) (h_row_at : Has P w K mg base ("row_at", none) 13 ["floor", "number"] (spF (bd0 K w) 2 m_row_at)) (h_many_begun : Has P w K mg base ("many_begun", none) 11 ["floor", "row"] (spF (bd0 K w) 2 t_many_begun)) (h_sure_floor : Has P w K mg base ("sure_floor", none) 7 ["floor"] (spF (bd0 K w) 1 m_sure_floor)) : Has P w K mg base d_last_laying.at_ 14 ["floor"] (spF (bd0 K w) 1 m_last_laying) := has_fn hd 50 rfl sc_last_laying rfl (fun Fn => FunD.bindsN Fn fun _ _ _ _ _ _ us hl => match us, hl with | [_], _ => rfl) (by_last_laying hd h_laying_by_row h_row_at h_many_begun h_sure_floor)
theorem byx_row_at {P : Program} {w : World} {K : PySem.W.Frag} {mg : PySem.Str → Option Value} {base : Heap} (hd : Hd K mg) (h_blocks_in : Has P w K mg base ("blocks_in", none) 2 ["floor"] (spF (bd0 K w) 1 m_blocks_in)) (h_begun_rows : Has P w K mg base ("begun_rows", none) 12 ["floor", "row"] (spF (bd0 K w) 2 t_begun_rows)) (h_many_begun : Has P w K mg base ("many_begun", none) 11 ["floor", "row"] (spF (bd0 K w) 2 t_many_begun)) : BodyX P w K mg base ["floor", "number", "found", "left", "_", "piece", "many"] d_row_at 12 b_row_at := fun f cdv A outer s F H E ok hr tk =>
  have sc := sc_row_at
  (q_cons (q_if (nGeIT ok (nV 1) (nCall (ps := ["floor", "row"]) (g := t_many_begun) h_many_begun (hd.glo 41 rfl) bd_eqv hr (by decide) (aC' (nV 0) (aC' (nTup a_nil) a_nil)) (fun _ _ h => t_many_len h))) (q_one (sExR hd 99 103 rfl rfl rfl rfl rfl tk)) q_nil) (q_cons (q_par2 ok sc.nd (i := 2) (j := 3) rfl rfl (by decide) rfl rfl (pC' (nTup a_nil) (pC' (nV 1) p_nil)) rfl rfl) (q_cons (sFor' (passes_of rfl) ok (i_of ok (nCall (ps := ["floor"]) (g := m_blocks_in) h_blocks_in (hd.glo 12 rfl) bd_eqv hr (by decide) (aC' (nV 0) a_nil))) (gN 4 sc.nd) (q_one (sFor' (passes_of rfl) ok (i_of ok (nCall (ps := ["floor", "row"]) (g := t_begun_rows) h_begun_rows (hd.glo 42 rfl) bd_eqv hr (by decide) (aC' (nV 0) (aC' (nV 2) a_nil)) (fun _ _ h => t_begun_len h))) (gT ok (gC (gN 5 sc.nd) (gC (gN 6 sc.nd) gs_nil))) (q_cons (q_if (nLtT ok (nV 3) (nV 6)) (q_cons (sSet' 2 (nTup (aS' ok (nV 2) (aC' (nV 5) a_nil))) sc.nd) (q_one q_break)) q_nil) (q_one (sAug' 3 (nV 6) ip_sub v_subI sc.nd)))))) (q_one (q_ret (nV 2))))))
theorem okx_row_at {P : Program} {w : World} {K : PySem.W.Frag} {mg : PySem.Str → Option Value} {base : Heap} (hd : Hd K mg) (h_blocks_in : Has P w K mg base ("blocks_in", none) 2 ["floor"] (spF (bd0 K w) 1 m_blocks_in)) (h_begun_rows : Has P w K mg base ("begun_rows", none) 12 ["floor", "row"] (spF (bd0 K w) 2 t_begun_rows)) (h_many_begun : Has P w K mg base ("many_begun", none) 11 ["floor", "row"] (spF (bd0 K w) 2 t_many_begun)) : HasX P w K mg base d_row_at.at_ 13 ["floor", "number"] (spX (bd0 K w) (cnA K) 2 x_row_at) := hasx_fn hd 48 rfl sc_row_at rfl (fun Fn => FunD.bindsN Fn fun _ _ _ _ _ _ us hl => match us, hl with | [_, _], _ => rfl) (byx_row_at hd h_blocks_in h_begun_rows h_many_begun)
theorem sc_next_laying : FnScope ["floor", "laying", "own", "told"] ["floor", "laying"] d_next_laying.scope := ⟨rfl, rfl, rfl, by decide +kernel, rfl, by decide +kernel, by decide +kernel⟩
theorem byx_next_laying {P : Program} {w : World} {K : PySem.W.Frag} {mg : PySem.Str → Option Value} {base : Heap} (hd : Hd K mg) (h_laying_by_row : Has P w K mg base ("laying_by_row", none) 1 ["row"] (spF (bd0 K w) 1 m_laying_by_row)) (hx_row_at : HasX P w K mg base ("row_at", none) 13 ["floor", "number"] (spX (bd0 K w) (cnA K) 2 x_row_at)) (h_number_in : Has P w K mg base ("number_in", none) 13 ["floor", "row"] (spF (bd0 K w) 2 m_number_in)) (h_row_in : Has P w K mg base ("row_in", none) 2 ["laying"] (spF (bd0 K w) 1 m_row_in)) (h_sure_laying : Has P w K mg base ("sure_laying", none) 7 ["floor", "laying"] (spF (bd0 K w) 2 m_sure_laying)) (h_sure_floor : Has P w K mg base ("sure_floor", none) 7 ["floor"] (spF (bd0 K w) 1 m_sure_floor)) : BodyX P w K mg base ["floor", "laying", "own", "told"] d_next_laying 13 b_next_laying := fun f cdv A outer s F H E ok hr tk =>
  have sc := sc_next_laying
  (q_cons (sSet' 2 (nCall (ps := ["floor"]) (g := m_sure_floor) h_sure_floor (hd.glo 9 rfl) bd_eqv hr (by decide) (aC' (nV 0) a_nil)) sc.nd) (q_cons (sSet' 3 (nCall (ps := ["laying"]) (g := m_row_in) h_row_in (hd.glo 39 rfl) bd_eqv hr (by decide) (aC' (nCall (ps := ["floor", "laying"]) (g := m_sure_laying) h_sure_laying (hd.glo 28 rfl) bd_eqv hr (by decide) (aC' (nV 2) (aC' (nV 1) a_nil))) a_nil)) sc.nd) (q_one (q_retX h_laying_by_row hx_row_at (hd.glo 40 rfl) (hd.glo 44 rfl) bd_eqv hr (by decide) (by decide) (fun _ h => runX_len h) tk (aC' (nV 2) (aC' (nAdd ok (nCall (ps := ["floor", "row"]) (g := m_number_in) h_number_in (hd.glo 43 rfl) bd_eqv hr (by decide) (aC' (nV 2) (aC' (nV 3) a_nil))) (r_int)) a_nil))))))
theorem okx_next_laying {P : Program} {w : World} {K : PySem.W.Frag} {mg : PySem.Str → Option Value} {base : Heap} (hd : Hd K mg) (h_laying_by_row : Has P w K mg base ("laying_by_row", none) 1 ["row"] (spF (bd0 K w) 1 m_laying_by_row)) (hx_row_at : HasX P w K mg base ("row_at", none) 13 ["floor", "number"] (spX (bd0 K w) (cnA K) 2 x_row_at)) (h_number_in : Has P w K mg base ("number_in", none) 13 ["floor", "row"] (spF (bd0 K w) 2 m_number_in)) (h_row_in : Has P w K mg base ("row_in", none) 2 ["laying"] (spF (bd0 K w) 1 m_row_in)) (h_sure_laying : Has P w K mg base ("sure_laying", none) 7 ["floor", "laying"] (spF (bd0 K w) 2 m_sure_laying)) (h_sure_floor : Has P w K mg base ("sure_floor", none) 7 ["floor"] (spF (bd0 K w) 1 m_sure_floor)) : HasX P w K mg base d_next_laying.at_ 14 ["floor", "laying"] (spX (bd0 K w) (cnA K) 2 x_next_laying) := hasx_fn hd 51 rfl sc_next_laying rfl (fun Fn => FunD.bindsN Fn fun _ _ _ _ _ _ us hl => match us, hl with | [_, _], _ => rfl) (byx_next_laying hd h_laying_by_row hx_row_at h_number_in h_row_in h_sure_laying h_sure_floor)
theorem sc_laying_ahead : FnScope ["floor", "laying", "own", "number"] ["floor", "laying"] d_laying_ahead.scope := ⟨rfl, rfl, rfl, by decide +kernel, rfl, by decide +kernel, by decide +kernel⟩
theorem byx_laying_ahead {P : Program} {w : World} {K : PySem.W.Frag} {mg : PySem.Str → Option Value} {base : Heap} (hd : Hd K mg) (h_laying_by_row : Has P w K mg base ("laying_by_row", none) 1 ["row"] (spF (bd0 K w) 1 m_laying_by_row)) (h_row_at : Has P w K mg base ("row_at", none) 13 ["floor", "number"] (spF (bd0 K w) 2 m_row_at)) (h_number_in : Has P w K mg base ("number_in", none) 13 ["floor", "row"] (spF (bd0 K w) 2 m_number_in)) (h_row_in : Has P w K mg base ("row_in", none) 2 ["laying"] (spF (bd0 K w) 1 m_row_in)) (h_sure_laying : Has P w K mg base ("sure_laying", none) 7 ["floor", "laying"] (spF (bd0 K w) 2 m_sure_laying)) (h_sure_floor : Has P w K mg base ("sure_floor", none) 7 ["floor"] (spF (bd0 K w) 1 m_sure_floor)) : BodyX P w K mg base ["floor", "laying", "own", "number"] d_laying_ahead 13 b_laying_ahead := fun f cdv A outer s F H E ok hr tk =>
  have sc := sc_laying_ahead
  (q_cons (sSet' 2 (nCall (ps := ["floor"]) (g := m_sure_floor) h_sure_floor (hd.glo 9 rfl) bd_eqv hr (by decide) (aC' (nV 0) a_nil)) sc.nd) (q_cons (sSet' 3 (nCall (ps := ["floor", "row"]) (g := m_number_in) h_number_in (hd.glo 43 rfl) bd_eqv hr (by decide) (aC' (nV 2) (aC' (nCall (ps := ["laying"]) (g := m_row_in) h_row_in (hd.glo 39 rfl) bd_eqv hr (by decide) (aC' (nCall (ps := ["floor", "laying"]) (g := m_sure_laying) h_sure_laying (hd.glo 28 rfl) bd_eqv hr (by decide) (aC' (nV 2) (aC' (nV 1) a_nil))) a_nil)) a_nil))) sc.nd) (q_cons (q_if (nEqT ok (nV 3) (r_int)) (q_one (sExR hd 99 103 rfl rfl rfl rfl rfl tk)) q_nil) (q_one (q_ret (nCall (ps := ["row"]) (g := m_laying_by_row) h_laying_by_row (hd.glo 40 rfl) bd_eqv hr (by decide) (aC' (nCall (ps := ["floor", "number"]) (g := m_row_at) h_row_at (hd.glo 44 rfl) bd_eqv hr (by decide) (aC' (nV 2) (aC' (nSub ok (nV 3) (r_int)) a_nil))) a_nil)))))))
theorem okx_laying_ahead {P : Program} {w : World} {K : PySem.W.Frag} {mg : PySem.Str → Option Value} {base : Heap} (hd : Hd K mg) (h_laying_by_row : Has P w K mg base ("laying_by_row", none) 1 ["row"] (spF (bd0 K w) 1 m_laying_by_row)) (h_row_at : Has P w K mg base ("row_at", none) 13 ["floor", "number"] (spF (bd0 K w) 2 m_row_at)) (h_number_in : Has P w K mg base ("number_in", none) 13 ["floor", "row"] (spF (bd0 K w) 2 m_number_in)) (h_row_in : Has P w K mg base ("row_in", none) 2 ["laying"] (spF (bd0 K w) 1 m_row_in)) (h_sure_laying : Has P w K mg base ("sure_laying", none) 7 ["floor", "laying"] (spF (bd0 K w) 2 m_sure_laying)) (h_sure_floor : Has P w K mg base ("sure_floor", none) 7 ["floor"] (spF (bd0 K w) 1 m_sure_floor)) : HasX P w K mg base d_laying_ahead.at_ 14 ["floor", "laying"] (spX (bd0 K w) (cnA K) 2 x_laying_ahead) := hasx_fn hd 52 rfl sc_laying_ahead rfl (fun Fn => FunD.bindsN Fn fun _ _ _ _ _ _ us hl => match us, hl with | [_, _], _ => rfl) (byx_laying_ahead hd h_laying_by_row h_row_at h_number_in h_row_in h_sure_laying h_sure_floor)
theorem sc_w_by_hand_right : FnScope ["_law_one", "_law_two", "_law_got"] [] d_w_by_hand_right.scope := ⟨rfl, rfl, rfl, by decide +kernel, rfl, by decide +kernel, by decide +kernel⟩
theorem by_w_by_hand_right {P : Program} {w : World} {K : PySem.W.Frag} {mg : PySem.Str → Option Value} {base : Heap} (hd : Hd K mg) (h_w_same : Has P w K mg base ("_law_same", none) 6 ["_law_got", "_law_due"] (spF (bd0 K w) 2 (m_w_same 6))) (h_w_heard : Has P w K mg base ("_law_heard", none) 15 ["_law_door_so", "_law_deck", "_law_spread"] (spF (bd0 K w) 3 m_w_heard)) (h_laying_ahead : Has P w K mg base ("laying_ahead", none) 14 ["floor", "laying"] (spF (bd0 K w) 2 m_ahead0)) (hk_next_laying : HasK P w K mg base "next_laying" 14 ["laying", "floor"] (spF (bd0 K w) 2 kw_next)) (h_w_lists : Has P w K mg base ("_law_lists", none) 6 ["_law_matter"] (spF (bd0 K w) 1 (m_w_lists 6))) (h_last_laying : Has P w K mg base ("last_laying", none) 14 ["floor"] (spF (bd0 K w) 1 m_last_laying)) (hk_first_laying : HasK P w K mg base "first_laying" 14 ["floor"] (spF (bd0 K w) 1 m_first_laying)) : Body P w K mg base ["_law_one", "_law_two", "_law_got"] d_w_by_hand_right 15 b_w_by_hand_right := fun f cdv A outer s F H E ok hr =>
  have sc := sc_w_by_hand_right
  (q_cons (q_unp (nTup (aC' (nTup (aC' (nTup (aC' (r_int) (aC' (r_int) (aC' (r_int) a_nil)))) (aC' (nTup (aC' (r_int) (aC' (r_int) (aC' (r_int) a_nil)))) (aC' (nTup (aC' (r_int) (aC' (r_int) (aC' (r_int) a_nil)))) (aC' (nTup (aC' (r_int) (aC' (r_int) (aC' (r_int) a_nil)))) a_nil))))) (aC' (nTup (aC' (nTup (aC' (r_int) (aC' (r_int) (aC' (r_int) a_nil)))) (aC' (nTup (aC' (r_int) (aC' (r_int) (aC' (r_int) a_nil)))) (aC' (nTup (aC' (r_int) (aC' (r_int) (aC' (r_int) a_nil)))) (aC' (nTup (aC' (r_int) (aC' (r_int) (aC' (r_int) a_nil)))) a_nil))))) a_nil))) (gT ok (gC (gN 0 sc.nd) (gC (gN 1 sc.nd) gs_nil))) rfl rfl rfl) (q_cons (sSet' 2 (r_lst (aC' (nCallKw (g := m_first_laying) hk_first_laying (hd.glo 45 rfl) bd_eqv hr (by decide) (k_cons (r_lst (aC' (r_int) (aC' (r_int) a_nil))) k_nil) (fun _ _ h => runF_len h)) (aC' (nCall (ps := ["floor"]) (g := m_last_laying) h_last_laying (hd.glo 46 rfl) bd_eqv hr (by decide) (aC' (nTup (aC' (r_int) (aC' (r_int) a_nil))) a_nil)) (aC' (nCallKw (g := kw_next) hk_next_laying (hd.glo 47 rfl) bd_eqv hr (by decide) (k_cons (nCall (ps := ["_law_matter"]) (g := m_w_lists 6) h_w_lists (hd.glo 53 rfl) bd_eqv hr (by decide) (aC' (nV 0) a_nil)) (k_cons (nTup (aC' (r_int) (aC' (r_int) a_nil))) k_nil)) (fun _ _ h => kw_next_len h)) (aC' (nCall (ps := ["floor", "laying"]) (g := m_ahead0) h_laying_ahead (hd.glo 48 rfl) bd_eqv hr (by decide) (aC' (nTup (aC' (r_int) (aC' (r_int) a_nil))) (aC' (nV 1) a_nil)) (fun _ _ h => m_ahead0_len h)) a_nil))))) sc.nd) (q_cons (sSet' 2 (nAdd ok (nV 2) (r_lst (aC' (nCall (ps := ["_law_door_so", "_law_deck", "_law_spread"]) (g := m_w_heard) h_w_heard (hd.glo 75 rfl) bd_eqv hr (by decide) (aC' (r_int) (aC' (nTup (aC' (r_int) (aC' (r_int) a_nil))) (aC' (nV 1) a_nil)))) (aC' (nCall (ps := ["_law_door_so", "_law_deck", "_law_spread"]) (g := m_w_heard) h_w_heard (hd.glo 75 rfl) bd_eqv hr (by decide) (aC' (r_int) (aC' (nTup (aC' (r_int) (aC' (r_int) a_nil))) (aC' (nV 0) a_nil)))) a_nil)))) sc.nd) (q_one (q_ret (nCall (ps := ["_law_got", "_law_due"]) (g := m_w_same 6) h_w_same (hd.glo 54 rfl) bd_eqv hr (by decide) (aC' (nV 2) (aC' (r_lst (aC' (nV 0) (aC' (nV 1) (aC' (nV 1) (aC' (nV 0) (aC' (r_lst (aC' (r_sym (c := .cannot) rfl) (aC' (r_bl) a_nil))) (aC' (r_lst (aC' (r_sym (c := .cannot) rfl) (aC' (r_bl) a_nil))) a_nil))))))) a_nil))))))))
theorem ok_w_by_hand_right {P : Program} {w : World} {K : PySem.W.Frag} {mg : PySem.Str → Option Value} {base : Heap} (hd : Hd K mg) (h_w_same : Has P w K mg base ("_law_same", none) 6 ["_law_got", "_law_due"] (spF (bd0 K w) 2 (m_w_same 6))) (h_w_heard : Has P w K mg base ("_law_heard", none) 15 ["_law_door_so", "_law_deck", "_law_spread"] (spF (bd0 K w) 3 m_w_heard)) (h_laying_ahead : Has P w K mg base ("laying_ahead", none) 14 ["floor", "laying"] (spF (bd0 K w) 2 m_ahead0)) (hk_next_laying : HasK P w K mg base "next_laying" 14 ["laying", "floor"] (spF (bd0 K w) 2 kw_next)) (h_w_lists : Has P w K mg base ("_law_lists", none) 6 ["_law_matter"] (spF (bd0 K w) 1 (m_w_lists 6))) (h_last_laying : Has P w K mg base ("last_laying", none) 14 ["floor"] (spF (bd0 K w) 1 m_last_laying)) (hk_first_laying : HasK P w K mg base "first_laying" 14 ["floor"] (spF (bd0 K w) 1 m_first_laying)) : Has P w K mg base d_w_by_hand_right.at_ 16 [] (spF (bd0 K w) 0 m_w_by_hand_right) := has_fn hd 80 rfl sc_w_by_hand_right rfl (fun Fn => FunD.bindsN Fn fun _ _ _ _ _ _ us hl => match us, hl with | [], _ => rfl) (by_w_by_hand_right hd h_w_same h_w_heard h_laying_ahead hk_next_laying h_w_lists h_last_laying hk_first_laying)
theorem sc_w_right : FnScope ["_law_tin", "_law_deck", "_law_all_so", "_law_soft_so", "_law_door_so", "_law_none_so", "_law_k", "_law_due", "_law_own"] ["_law_tin"] d_w_right.scope := ⟨rfl, rfl, rfl, by decide +kernel, rfl, by decide +kernel, by decide +kernel⟩
theorem by_w_right {P : Program} {w : World} {K : PySem.W.Frag} {mg : PySem.Str → Option Value} {base : Heap} (hd : Hd K mg) (h_w_same : Has P w K mg base ("_law_same", none) 6 ["_law_got", "_law_due"] (spF (bd0 K w) 2 (m_w_same 6))) (h_w_heard : Has P w K mg base ("_law_heard", none) 15 ["_law_door_so", "_law_deck", "_law_spread"] (spF (bd0 K w) 3 t_heard)) (h_w_lists : Has P w K mg base ("_law_lists", none) 6 ["_law_matter"] (spF (bd0 K w) 1 (m_w_lists 6))) (h_w_of : Has P w K mg base ("_law_of", none) 2 ["_law_tin", "_law_goods_so"] spOf) (h_w_take : Has P w K mg base ("_law_take", none) 1 ["_law_tin", "_law_below_so"] spTake) (h_w_rows : Has P w K mg base ("_law_rows", none) 7 ["_law_deck"] (spF (bd0 K w) 1 t_w_rows)) : BodyH P w K mg base ["_law_tin", "_law_deck", "_law_all_so", "_law_soft_so", "_law_door_so", "_law_none_so", "_law_k", "_law_due", "_law_own"] d_w_right 15 b_w_right := fun f cdv A outer s F H0 H E ok hr =>
  have sc := sc_w_right
  (q_cons (sSet' 1 (nOf 0 h_w_of (hd.glo 52 rfl) hr (by decide) (nW 0) (aC' (nTup (aC' (r_int) (aC' (r_int) a_nil))) (aC' (nTup (aC' (r_int) (aC' (r_int) a_nil))) (aC' (nTup (aC' (r_int) (aC' (r_int) a_nil))) (aC' (nTup (aC' (r_int) (aC' (r_int) a_nil))) a_nil))))) sc.nd) (q_cons (q_setLc ok sc.nd (i := 2) rfl rfl (sw_true rfl rfl rfl rfl) (i_of ok (nCall (ps := ["_law_deck"]) (g := t_w_rows) h_w_rows (hd.glo 74 rfl) bd_eqv hr (by decide) (aC' (nV 1) a_nil) (fun _ _ h => t_rows_len h))) (blkOk_by (own := [("_law_own", 8)]) rfl) rfl rfl (fun _ _ _ _ _ => (gN 8 sc.nd)) (fun _ _ _ _ _ => pts_nil) (fun _ _ _ _ _ => (nTuple ok.blk (hd.free 81 rfl) (nSorted (.l .i) ok.blk (hd.free 84 rfl) (by decide) (by decide) (nV 8)))) (fun _ => rfl)) (q_cons (q_par3 ok sc.nd (i := 3) (j := 4) (l := 5) rfl rfl rfl (by decide) (by decide) (by decide) rfl rfl rfl (pC' (r_if (nEqT ok (nTake 0 h_w_take (hd.glo 50 rfl) hr (by decide) (nW 0) (r_int)) (r_int)) (nList ok (hd.free 91 rfl) (nV 1)) (nV 1)) (pC' (nTake 0 h_w_take (hd.glo 50 rfl) hr (by decide) (nW 0) (r_int)) (pC' (r_lst (aC' (r_sym (c := .cannot) rfl) (aC' (r_bl) a_nil))) p_nil))) rfl rfl) (q_cons (sSet' 6 (nOf 0 h_w_of (hd.glo 52 rfl) hr (by decide) (nW 0) (aC' (r_int) (aC' (nSub ok (nLen ok (hd.free 79 rfl) (nV 2)) (r_int)) (aC' (nTake 0 h_w_take (hd.glo 50 rfl) hr (by decide) (nW 0) (nLen ok (hd.free 79 rfl) (nV 2))) (aC' (nTake 0 h_w_take (hd.glo 50 rfl) hr (by decide) (nW 0) (nLen ok (hd.free 79 rfl) (nV 2))) a_nil))))) sc.nd) (q_cons (sSet' 7 (nIx ok (r_lst (aC' (nIx ok (nV 2) (r_int)) (aC' (nIx ok (nV 2) (nNeg (r_int))) (aC' (nV 5) (aC' (nV 5) a_nil))))) (nV 4)) sc.nd) (q_cons (q_if (w_and (nEqT ok (nV 4) (r_int)) (pw_and1 (nLtT ok (nAdd ok (nV 6) (r_int)) (nLen ok (hd.free 79 rfl) (nV 2))))).pt (q_one (sSet' 7 (nIx ok (nV 2) (nAdd ok (nV 6) (r_int))) sc.nd)) q_nil) (q_cons (q_if (w_and (nEqT ok (nV 4) (r_int)) (pw_and1 (nGtIT ok (nV 6) (r_int)))).pt (q_one (sSet' 7 (nIx ok (nV 2) (nSub ok (nV 6) (r_int))) sc.nd)) q_nil) (q_one (q_ret (nCall (ps := ["_law_got", "_law_due"]) (g := m_w_same 6) h_w_same (hd.glo 54 rfl) bd_eqv hr (by decide) (aC' (r_lst (aC' (nCall (ps := ["_law_door_so", "_law_deck", "_law_spread"]) (g := t_heard) h_w_heard (hd.glo 75 rfl) bd_eqv hr (by decide) (aC' (nV 4) (aC' (nV 3) (aC' (nCall (ps := ["_law_matter"]) (g := m_w_lists 6) h_w_lists (hd.glo 53 rfl) bd_eqv hr (by decide) (aC' (nIx ok (nV 2) (nV 6)) a_nil)) a_nil))) (fun _ _ h => t_heard_len h)) a_nil)) (aC' (r_lst (aC' (nV 7) a_nil)) a_nil))))))))))))
end Tee
set_option maxRecDepth 100000
set_option maxHeartbeats 4000000
/-! Recursion; Rules.__init__; defs in slots; the small defs of the draws. -/
namespace Tee
open PySem PySem.Spec PyProof.Rows L2
section
variable {P : Program} {w : World} {K : PySem.W.Frag} {mg : PySem.Str → Option Value} {base : Heap}
/-- a promise that nobody meets -/
theorem has_none (e : Hd K mg) (i : Nat) {ps : List PySem.Str} {k n : Nat} {d : He.DefD} (hi : fn[i]? = some d) (hd : d.dvs K = []) (hn : n = ps.length)
    (hbi : ∀ {f fd}, FunD K d.name d.qual d.params d.body d.scope (d.dvs K) (d.kws K) f fd → Binds K fd ps []) : Has P w K mg base d.at_ k ps (spF (bd0 K w) n fun _ => none) := by
  obtain ⟨fd, Fn⟩ := e.c.def_ i hi
  refine ⟨fd, ⟨fun vs H Q E h => by rw [← hn]; exact h.1, fun A outer s H args us vs Q E hr _ _ _ h => ?_⟩, hbi Fn, Fn.kp⟩
  obtain ⟨_, F, ds, d, hg, _⟩ := h
  cases hg
theorem m_tupled_len : ∀ (n : Nat) (ds : List D) (d : D), m_tupled n ds = some d → ds.length = 1
  | 0, _, _, h => by cases h
  | n + 1, _, _, h => runF_len h
theorem ok_tupled (hd : Hd K mg) : ∀ n : Nat, Has P w K mg base ("tupled", none) n ["value"] (spF (bd0 K w) 1 (m_tupled n))
  | 0 => has_none hd 3 (d := d_tupled) rfl rfl rfl (fun Fn => FunD.bindsN Fn fun _ _ _ _ _ _ us hl => match us, hl with | [_], _ => rfl)
  | n + 1 => has_fn hd 3 (d := d_tupled) rfl sc_tupled rfl (fun Fn => FunD.bindsN Fn fun _ _ _ _ _ _ us hl => match us, hl with | [_], _ => rfl) (by_tupled (Nat.zero_le _) hd (ok_tupled hd n) (m_tupled_len n))
theorem m_w_lists_len : ∀ (n : Nat) (ds : List D) (d : D), m_w_lists n ds = some d → ds.length = 1
  | 0, _, _, h => by cases h
  | n + 1, _, _, h => runF_len h
theorem ok_w_lists (hd : Hd K mg) : ∀ n : Nat, Has P w K mg base ("_law_lists", none) n ["_law_matter"] (spF (bd0 K w) 1 (m_w_lists n))
  | 0 => has_none hd 57 (d := d_w_lists) rfl rfl rfl (fun Fn => FunD.bindsN Fn fun _ _ _ _ _ _ us hl => match us, hl with | [_], _ => rfl)
  | n + 1 => has_fn hd 57 (d := d_w_lists) rfl sc_w_lists rfl (fun Fn => FunD.bindsN Fn fun _ _ _ _ _ _ us hl => match us, hl with | [_], _ => rfl) (by_w_lists (Nat.zero_le _) hd (ok_w_lists hd n) (m_w_lists_len n))
theorem m_w_same_len : ∀ (n : Nat) (ds : List D) (d : D), m_w_same n ds = some d → ds.length = 2
  | 0, _, _, h => by cases h
  | n + 1, _, _, h => runF_len h
theorem ok_w_same (hd : Hd K mg) : ∀ n : Nat, Has P w K mg base ("_law_same", none) n ["_law_got", "_law_due"] (spF (bd0 K w) 2 (m_w_same n))
  | 0 => has_none hd 58 (d := d_w_same) rfl rfl rfl (fun Fn => FunD.bindsN Fn fun _ _ _ _ _ _ us hl => match us, hl with | [_, _], _ => rfl)
  | n + 1 => has_fn hd 58 (d := d_w_same) rfl sc_w_same rfl (fun Fn => FunD.bindsN Fn fun _ _ _ _ _ _ us hl => match us, hl with | [_, _], _ => rfl) (by_w_same (Nat.zero_le _) hd (ok_w_same hd n) (m_w_same_len n))
theorem m_sum_by_len : ∀ (n : Nat) (ds : List D) (d : D), m_sum_by n ds = some d → ds.length = 3
  | 0, _, _, h => by cases h
  | n + 1, _, _, h => runF_len h
theorem ok_sum_by (hd : Hd K mg) (h_gone_on : Has P w K mg base ("gone_on", none) 3 ["floor", "rules", "now", "step", "i", "j", "weight"] (spF (bd0 K w) 7 m_gone_on)) (h_Rules_crossed : Has P w K mg base ("Rules", some "crossed") 3 ["self"] (spF (bd0 K w) 1 m_Rules_crossed)) :
    ∀ n : Nat, Has P w K mg base ("sum_by", none) (3 + n) ["floor", "rules", "weight"] (spF (bd0 K w) 3 (m_sum_by n))
  | 0 => has_none hd 39 (d := d_sum_by) rfl rfl rfl (fun Fn => FunD.bindsN Fn fun _ _ _ _ _ _ us hl => match us, hl with | [_, _, _], _ => rfl)
  | n + 1 => has_fn hd 39 (d := d_sum_by) rfl sc_sum_by rfl (fun Fn => FunD.bindsN Fn fun _ _ _ _ _ _ us hl => match us, hl with | [_, _, _], _ => rfl) (by_sum_by (j := 3 + n) (Nat.le_add_right _ _) hd h_gone_on h_Rules_crossed (ok_sum_by hd h_gone_on h_Rules_crossed n) (m_sum_by_len n))
/-! ### Rules.__init__ -/
theorem sc_Rules_init : FnScope ["self", "signs", "known"] ["self", "signs", "known"] d_Rules_init.scope := ⟨rfl, rfl, rfl, by decide +kernel, rfl, by decide +kernel, by decide +kernel⟩
theorem ok_Rules_init (hd : Hd K mg) : HasI P w K mg base 1 := by
  obtain ⟨fd, Fn⟩ := hd.c.def_ 31 (d := d_Rules_init) rfl
  have cz : Clz (bd1 K w (fun _ => none) fun _ => none) := hd.clz 97 112 113 114 115 rfl rfl rfl rfl rfl
  refine ⟨fd, Fn.ok sc_Rules_init (fun vs H Q E h => ?_) (fun cdv A outer s H vs Q E hr ⟨x, dx, sv, kv, e, hx, hdx, q⟩ => ⟨_, PSs.nox (pss_one (ps_asg (pe_tup (pa_cons (pv 1) (pa_cons (pv 2) (pa_cons pe_newF (pa_cons pe_newF pa_nil))))) (pg_tup rfl (pgs_cons (pg_fld (pv 0)) (pgs_cons (pg_fld (pv 0)) (pgs_cons (pg_fld (pv 0)) (pgs_cons (pg_fld (pv 0)) pgs_nil))))))), ?_⟩), FunD.bindsN Fn fun _ _ _ _ _ _ us hl => match us, hl with | [_, _, _], _ => rfl⟩
  · obtain ⟨x, dx, sv, kv, rfl, _⟩ := h
    rfl
  · subst e
    refine ⟨sv, rfl, kv, rfl, fun p o hp p2 o2 hp2 => ⟨line_le (by show 4 ≤ 100000; decide), fun t ht => ?_⟩⟩
    have np : p ≠ x := fun z => by
      rw [z, hx] at hp
      cases hp
    have nq : p2 ≠ x := fun z => by
      rw [z, upd_ne (Ne.symm np), hx] at hp2
      cases hp2
    have npq : p2 ≠ p := fun z => by
      rw [z, upd_same] at hp2
      cases hp2
    have nt : t ≠ x := fun z => by
      rw [z, upd_ne (Ne.symm nq), upd_ne (Ne.symm np), hx] at ht
      cases ht
    have ntp : t ≠ p := fun z => by
      rw [z, upd_ne (Ne.symm npq), upd_same] at ht
      cases ht
    have ntq : t ≠ p2 := fun z => by
      rw [z, upd_same] at ht
      cases ht
    have ex : upd (upd (upd H p (.frz o (dicO p []))) p2 (.frz o2 (dicO p2 []))) t (.tup [sv, kv, .ref p, .ref p2]) x = some (.ins (He.ga K "Rules") dx []) := by
      rw [upd_ne (Ne.symm nt), upd_ne (Ne.symm nq), upd_ne (Ne.symm np)]
      exact hx
    refine ⟨t, _, rfl, SqT.of upd_same, rfl, _, _, rfl, .ref x, rfl, x, _, dx, [], rfl, ex, cz.cl, cz.no "signs" (by decide), by decide, ?_⟩
    refine ⟨_, _, rfl, .ref x, rfl, x, _, dx, _, rfl, upd_same, cz.cl, cz.no "known" (by decide), by show 1 < 1000; decide, ?_⟩
    refine ⟨_, _, rfl, .ref x, rfl, x, _, dx, _, rfl, upd_same, cz.cl, cz.no "least" (by decide), by show 2 < 1000; decide, ?_⟩
    refine ⟨_, _, rfl, .ref x, rfl, x, _, dx, _, rfl, upd_same, cz.cl, cz.no "only" (by decide), by show 3 < 1000; decide, ?_⟩
    refine ⟨rfl, q _ p p2 o o2 ⟨fun a u na e => ?_, ?_, ?_, ?_, hp, ?_, Ne.symm npq⟩⟩
    · rw [upd_ne na, upd_ne na, upd_ne na, upd_ne na]
      have n1 : a ≠ p := ne_of_none e hp
      have n2 : a ≠ p2 := ne_of_none (by rw [upd_ne n1]; exact e) hp2
      have n3 : a ≠ t := ne_of_none (by rw [upd_ne n2, upd_ne n1]; exact e) ht
      rw [upd_ne n3, upd_ne n2, upd_ne n1]
      exact e
    · exact upd_same
    · rw [upd_ne np, upd_ne np, upd_ne np, upd_ne np, upd_ne (Ne.symm ntp), upd_ne (Ne.symm npq), upd_same]
    · rw [upd_ne nq, upd_ne nq, upd_ne nq, upd_ne nq, upd_ne (Ne.symm ntq), upd_same]
    · rw [upd_ne npq] at hp2
      exact hp2
end
end Tee
set_option maxRecDepth 100000
set_option maxHeartbeats 4000000
/-! All defs together. -/
namespace Tee
open PySem PySem.Spec PyProof.Rows L2
theorem tb_of {P : Program} {w : World} {K : PySem.W.Frag} {mg : PySem.Str → Option Value} {base : Heap} {k0 k1 k : Nat} {ps0 ps1 : List PySem.Str} (h0 : Has P w K mg base ("dot_steps", none) k0 ps0 (spF (bd0 K w) 5 m_dot_steps)) (h1 : Has P w K mg base ("inner_steps", none) k1 ps1 (spF (bd0 K w) 5 m_inner_steps)) (l0 : k0 ≤ k := by decide) (l1 : k1 ≤ k := by decide) (p0 : ps0.length = 5 := by exact rfl) (p1 : ps1.length = 5 := by exact rfl) : Tb P w K mg base k := fun j hj => by
  obtain ⟨f0, F0, b0, z0⟩ := h0
  obtain ⟨f1, F1, b1, z1⟩ := h1
  match j, hj with
  | 0, _ => exact ⟨f0, ps0, p0, F0.mono l0, z0, b0⟩
  | 1, _ => exact ⟨f1, ps1, p1, F1.mono l1, z1, b1⟩
def LV : Nat := 15
theorem all_ok {P : Program} {w : World} {K : PySem.W.Frag} {mg : PySem.Str → Option Value} {base : Heap} (hd : Hd K mg) :
    Has P w K mg base ("first_laying", none) 14 ["floor"] (spF (bd0 K w) 1 m_first_laying) ∧
    Has P w K mg base ("last_laying", none) 14 ["floor"] (spF (bd0 K w) 1 m_last_laying) ∧
    HasX P w K mg base ("next_laying", none) 14 ["floor", "laying"] (spX (bd0 K w) (cnA K) 2 x_next_laying) ∧
    HasX P w K mg base ("laying_ahead", none) 14 ["floor", "laying"] (spX (bd0 K w) (cnA K) 2 x_laying_ahead) ∧
    Has P w K mg base ("_law_same", none) 6 ["_law_got", "_law_due"] (spF (bd0 K w) 2 (m_w_same 6)) ∧
    Has P w K mg base ("_law_lists", none) 6 ["_law_matter"] (spF (bd0 K w) 1 (m_w_lists 6)) ∧
    Has P w K mg base ("_law_rows", none) 7 ["_law_deck"] (spF (bd0 K w) 1 m_w_rows) ∧
    Body P w K mg base ["floor"] d_first_laying 13 b_first_laying ∧
    BodyX P w K mg base ["floor", "laying", "own", "told"] d_next_laying 13 b_next_laying := by
  have hI := ok_Rules_init (P := P) (w := w) (base := base) hd
  have h_is_number := ok_is_number (P := P) (w := w) (base := base) hd
  have h_is_from := ok_is_from (P := P) (w := w) (base := base) hd h_is_number
  have h_is_long := ok_is_long (P := P) (w := w) (base := base) hd
  have h_tupled := ok_tupled (P := P) (w := w) (base := base) hd 6
  have h_ascends := ok_ascends (P := P) (w := w) (base := base) hd
  have h_set_of := ok_set_of (P := P) (w := w) (base := base) hd
  have h_are_numbers := ok_are_numbers (P := P) (w := w) (base := base) hd h_is_number
  have h_is_pair := ok_is_pair (P := P) (w := w) (base := base) hd h_are_numbers h_is_long
  have h_is_floor := ok_is_floor (P := P) (w := w) (base := base) hd h_is_from h_is_long
  have h_sure_floor := ok_sure_floor (P := P) (w := w) (base := base) hd h_is_floor h_tupled
  have h_is_block_in := ok_is_block_in (P := P) (w := w) (base := base) hd h_is_pair
  have h_pairs_from := ok_pairs_from (P := P) (w := w) (base := base) hd
  have h_blocks_in := ok_blocks_in (P := P) (w := w) (base := base) hd h_pairs_from
  have h_is_piece := ok_is_piece (P := P) (w := w) (base := base) hd h_are_numbers h_is_long
  have h_beside := ok_beside (P := P) (w := w) (base := base) hd
  have h_cells_in := ok_cells_in (P := P) (w := w) (base := base) hd h_beside
  have h_middle_by := ok_middle_by (P := P) (w := w) (base := base) hd
  have h_own_block_in := ok_own_block_in (P := P) (w := w) (base := base) hd
  have h_sign_in := ok_sign_in (P := P) (w := w) (base := base) hd h_middle_by h_own_block_in
  have h_outward := ok_outward (P := P) (w := w) (base := base) hd
  have h_goes_in := ok_goes_in (P := P) (w := w) (base := base) hd h_outward h_own_block_in
  have h_stem_by := ok_stem_by (P := P) (w := w) (base := base) hd
  have h_piece_out := ok_piece_out (P := P) (w := w) (base := base) hd h_stem_by h_middle_by
  have h_four_in := ok_four_in (P := P) (w := w) (base := base) hd h_is_block_in h_goes_in h_piece_out
  have h_tie_in := ok_tie_in (P := P) (w := w) (base := base) hd h_outward h_goes_in h_own_block_in
  have h_has_cell := ok_has_cell (P := P) (w := w) (base := base) hd
  have h_counted := ok_counted (P := P) (w := w) (base := base) hd h_cells_in
  have h_is_laying_in := ok_is_laying_in (P := P) (w := w) (base := base) hd h_has_cell h_counted h_ascends h_is_piece
  have h_sure_laying := ok_sure_laying (P := P) (w := w) (base := base) hd h_is_laying_in h_tupled
  have h_signs_in := ok_signs_in (P := P) (w := w) (base := base) hd h_sign_in h_goes_in h_own_block_in
  have h_words_in := ok_words_in (P := P) (w := w) (base := base) hd h_set_of h_tie_in
  have h_Rules_agrees := ok_Rules_agrees (P := P) (w := w) (base := base) hd
  have h_Rules_lets := ok_Rules_lets (P := P) (w := w) (base := base) hd
  have h_crossed_face := ok_crossed_face (P := P) (w := w) (base := base) hd
  have h_dot_steps := ok_dot_steps (P := P) (w := w) (base := base) hd h_Rules_agrees h_Rules_lets
  have h_inner_steps := ok_inner_steps (P := P) (w := w) (base := base) hd h_Rules_agrees h_Rules_lets
  have TB := tb_of (P := P) (w := w) (base := base) (k := 2) h_dot_steps h_inner_steps
  have h_gone_on := ok_gone_on (P := P) (w := w) (base := base) hd TB
  have h_rules_in := ok_rules_in (P := P) (w := w) (base := base) hd h_set_of h_signs_in h_words_in hI
  have h_sure_short := ok_sure_short (P := P) (w := w) (base := base) hd
  have h_row_in := ok_row_in (P := P) (w := w) (base := base) hd h_own_block_in
  have h_laying_by_row := ok_laying_by_row (P := P) (w := w) (base := base) hd
  have h_w_lists := ok_w_lists (P := P) (w := w) (base := base) hd 6
  have h_w_same := ok_w_same (P := P) (w := w) (base := base) hd 6
  have h_w_off := ok_w_off (P := P) (w := w) (base := base) hd
  have h_w_plots := ok_w_plots (P := P) (w := w) (base := base) hd
  have h_w_dot := ok_w_dot (P := P) (w := w) (base := base) hd
  have h_w_dots := ok_w_dots (P := P) (w := w) (base := base) hd
  have h_w_bonds := ok_w_bonds (P := P) (w := w) (base := base) hd h_w_dots
  have h_w_bond_at := ok_w_bond_at (P := P) (w := w) (base := base) hd h_w_off
  have h_w_pair_at := ok_w_pair_at (P := P) (w := w) (base := base) hd h_w_off
  have h_w_site := ok_w_site (P := P) (w := w) (base := base) hd h_w_pair_at
  have h_w_middle := ok_w_middle (P := P) (w := w) (base := base) hd
  have h_w_slab := ok_w_slab (P := P) (w := w) (base := base) hd h_w_middle
  have h_w_joins := ok_w_joins (P := P) (w := w) (base := base) hd h_w_dots h_w_site h_w_pair_at h_w_bond_at
  have h_w_rounds := ok_w_rounds (P := P) (w := w) (base := base) hd h_w_joins h_w_plots
  have h_w_lots := ok_w_lots (P := P) (w := w) (base := base) hd h_w_bonds
  have h_w_kinds_of := ok_w_kinds_of (P := P) (w := w) (base := base) hd h_w_plots h_w_slab h_w_bond_at h_w_dot h_w_middle
  have h_w_laid := ok_w_laid (P := P) (w := w) (base := base) hd
  have h_w_all_bits := ok_w_all_bits (P := P) (w := w) (base := base) hd
  have h_w_signs_by := ok_w_signs_by (P := P) (w := w) (base := base) hd
  have h_w_all_spreads := ok_w_all_spreads (P := P) (w := w) (base := base) hd h_w_lots h_w_all_bits h_w_laid h_w_signs_by h_w_rounds h_w_kinds_of
  have h_w_row := ok_w_row (P := P) (w := w) (base := base) hd
  have h_w_rows := ok_w_rows (P := P) (w := w) (base := base) hd h_w_all_spreads h_w_row
  have h_Rules_crossed := ok_Rules_crossed (P := P) (w := w) (base := base) hd h_crossed_face hI
  have h_sum_by := ok_sum_by hd h_gone_on h_Rules_crossed 6
  have h_many_in := ok_many_in (P := P) (w := w) (base := base) hd h_sum_by h_rules_in h_sure_short
  have h_many_begun := ok_many_begun (P := P) (w := w) (base := base) hd h_many_in
  have h_begun_rows := ok_begun_rows (P := P) (w := w) (base := base) hd h_four_in h_many_begun h_blocks_in
  have h_number_in := ok_number_in (P := P) (w := w) (base := base) hd (h_begun_rows.imp t_begun_ok)
  have h_row_at := ok_row_at (P := P) (w := w) (base := base) hd h_blocks_in (h_begun_rows.imp t_begun_ok) (h_many_begun.imp t_many_ok)
  have h_first_laying := ok_first_laying (P := P) (w := w) (base := base) hd h_laying_by_row h_row_at h_sure_floor
  have h_last_laying := ok_last_laying (P := P) (w := w) (base := base) hd h_laying_by_row h_row_at (h_many_begun.imp t_many_ok) h_sure_floor
  have hx_row_at := okx_row_at hd h_blocks_in (h_begun_rows.imp t_begun_ok) (h_many_begun.imp t_many_ok)
  have hx_next_laying := okx_next_laying hd h_laying_by_row hx_row_at h_number_in h_row_in h_sure_laying h_sure_floor
  have hx_laying_ahead := okx_laying_ahead hd h_laying_by_row h_row_at h_number_in h_row_in h_sure_laying h_sure_floor
  exact ⟨h_first_laying, h_last_laying, hx_next_laying, hx_laying_ahead, h_w_same, h_w_lists, h_w_rows, by_first_laying (P := P) (w := w) (base := base) hd h_laying_by_row h_row_at h_sure_floor, byx_next_laying hd h_laying_by_row hx_row_at h_number_in h_row_in h_sure_laying h_sure_floor⟩
end Tee
set_option maxRecDepth 100000
set_option maxHeartbeats 4000000
/-! The draws' defs by hand. -/
namespace Tee
open PySem PySem.Spec PyProof.Rows L2
theorem drR_pos {a b c n : Int} (h : 0 < a) : drR a b c n = a % n ∧ drA a n = a / n ∧ drC a c = c := by
  have e : ilt 0 a = true := by rw [ilt_iff]; exact decide_eq_true h
  unfold drR drA drC
  rw [e]
  exact ⟨rfl, rfl, rfl⟩
theorem drR_neg {a b c n : Int} (h : ¬ 0 < a) : drR a b c n = ((((((((b + 48271 * (c + 1)) * (39373 + (c + 1))) % 2147483647 + (c + 1) + b / 1000003) * (((b + 48271 * (c + 1)) * (39373 + (c + 1))) % 2147483647 % 40009 + 7)) % 2147483629) * 48271 + ((b + 48271 * (c + 1)) * (39373 + (c + 1))) % 2147483647) % 2147483587) / 64) % n ∧ drA a n = a ∧ drC a c = c + 1 := by
  have e : ilt 0 a = false := by rw [ilt_iff]; exact decide_eq_false h
  unfold drR drA drC
  rw [e]
  exact ⟨rfl, rfl, rfl⟩
theorem sc_w_take : FnScope ["_law_tin", "_law_below_so", "_law_drawn", "_law_once_so", "_law_wide_so", "_law_twice_so"] ["_law_tin", "_law_below_so"] d_w_take.scope := ⟨rfl, rfl, rfl, by decide +kernel, rfl, by decide +kernel, by decide +kernel⟩
section
variable {P : Program} {w : World} {K : PySem.W.Frag} {mg : PySem.Str → Option Value} {base : Heap}
theorem ok_w_take (hd : Hd K mg) : Has P w K mg base ("_law_take", none) 1 ["_law_tin", "_law_below_so"] spTake := by
  obtain ⟨fd, Fn⟩ := hd.c.def_ 54 (d := d_w_take) rfl
  have mi : mg "int" = none := hd.free 86 rfl
  refine ⟨fd, Fn.ok sc_w_take (fun vs H Q E h => ?_) (fun cdv A outer s H vs Q E hr h => ⟨_, PSs.nox
    (pss_cons (ps_if (pt_cmpR op_gt (pe_ix ix_list (pv 0) pe_int (fun _ _ => rfl)) pe_int (nomark _))
      (pss_cons (ps_set (i := 2) sc_w_take.nd rfl (.inl rfl) (pe_op op_mod (pe_callTy call_int1 rfl mi (by decide +kernel) (pa_cons (pe_ix ix_list (pv 0) pe_int (fun _ _ => rfl)) pa_nil)) (pv 1)))
      (pss_cons (ps_asg (pe_op op_fdiv (pe_ix ix_list (pv 0) pe_int (fun _ _ => rfl)) (pv 1)) (pg_sub (pv 0) pe_int set_list))
      (pss_one (ps_ret (pv 2))))) pss_nil)
    (pss_cons (ps_asg (pe_op op_add (pe_ix ix_list (pv 0) pe_int (fun _ _ => rfl)) pe_int) (pg_sub (pv 0) pe_int set_list))
    (pss_cons (ps_set (i := 3) sc_w_take.nd rfl (.inl rfl) (pe_op op_mod (pe_callTy call_int1 rfl mi (by decide +kernel) (pa_cons (pe_op op_mul (pe_op op_add (pe_ix ix_list (pv 0) pe_int (fun _ _ => rfl)) (pe_op op_mul pe_int (pe_ix ix_list (pv 0) pe_int (fun _ _ => rfl)))) (pe_op op_add pe_int (pe_ix ix_list (pv 0) pe_int (fun _ _ => rfl)))) pa_nil)) pe_int))
    (pss_cons (ps_set (i := 4) sc_w_take.nd rfl (.inl rfl) (pe_op op_add (pe_op op_mod (pe_callTy call_int1 rfl mi (by decide +kernel) (pa_cons (pv 3) pa_nil)) pe_int) pe_int))
    (pss_cons (ps_set (i := 5) sc_w_take.nd rfl (.inl rfl) (pe_op op_mod (pe_callTy call_int1 rfl mi (by decide +kernel) (pa_cons (pe_op op_mul (pe_op op_add (pe_op op_add (pv 3) (pe_ix ix_list (pv 0) pe_int (fun _ _ => rfl))) (pe_op op_fdiv (pe_ix ix_list (pv 0) pe_int (fun _ _ => rfl)) pe_int)) (pv 4)) pa_nil)) pe_int))
    (pss_one (ps_ret (pe_op op_mod (pe_callTy call_int1 rfl mi (by decide +kernel) (pa_cons (pe_op op_fdiv (pe_op op_mod (pe_callTy call_int1 rfl mi (by decide +kernel) (pa_cons (pe_op op_add (pe_op op_mul (pv 5) pe_int) (pv 3)) pa_nil)) pe_int) pe_int) pa_nil)) (pv 1))))))))), ?_⟩), FunD.bindsN Fn fun _ _ _ _ _ _ us hl => match us, hl with | [_, _], _ => rfl, Fn.kp⟩
  · obtain ⟨t, a, bb, c, n, rfl, _⟩ := h
    rfl
  · obtain ⟨t, a, bb, c, n, rfl, ht, ⟨ha, hb, hb2, hc, hc2⟩, ⟨hn, hn2⟩, q⟩ := h
    have dv : CDiv a n := ⟨hn, by omega⟩
    have hu : upd H t (.lst [.int a, .int bb, .int (c + 1)]) t = some (.lst [.int a, .int bb, .int (c + 1)]) := upd_same
    refine ⟨.ref t, rfl, t, _, _, _, rfl, rfl, SqL.of ht, rfl, a, 0, rfl, rfl, _, rfl, ?_⟩
    by_cases hp : 0 < a
    · obtain ⟨e1, e2, e3⟩ := drR_pos (b := bb) (c := c) (n := n) hp
      rw [e1, e2, e3] at q
      refine ite2 (fun _ => ?_) (fun z => absurd (decide_eq_true hp) z)
      refine ⟨.ref t, rfl, t, _, _, _, rfl, rfl, SqL.of ht, rfl, .inl ⟨a, rfl, .int n, rfl, a, n, rfl, rfl, hn, ?_⟩⟩
      refine ⟨.ref t, rfl, t, _, _, _, rfl, rfl, SqL.of ht, rfl, .int n, rfl, a, n, rfl, rfl, dv, ?_⟩
      refine ⟨.ref t, rfl, t, _, 0, 0, rfl, rfl, ht, rfl, ?_⟩
      exact ⟨_, rfl, q⟩
    · obtain ⟨e1, e2, e3⟩ := drR_neg (b := bb) (c := c) (n := n) hp
      rw [e1, e2, e3] at q
      refine ite2 (fun z => absurd (of_decide_eq_true z) hp) (fun _ => ?_)
      refine ⟨.ref t, rfl, t, _, _, _, rfl, rfl, SqL.of ht, rfl, c, 1, rfl, rfl, ?_⟩
      refine ⟨.ref t, rfl, t, _, 2, 2, rfl, rfl, ht, rfl, ?_⟩
      refine ⟨.ref t, rfl, t, _, _, _, rfl, rfl, SqL.of hu, rfl, .ref t, rfl, t, _, _, _, rfl, rfl, SqL.of hu, rfl, 48271, c + 1, rfl, rfl, .inl ⟨by decide, by decide⟩, bb, 48271 * (c + 1), rfl, rfl, ?_⟩
      refine ⟨.ref t, rfl, t, _, _, _, rfl, rfl, SqL.of hu, rfl, 39373, c + 1, rfl, rfl, bb + 48271 * (c + 1), 39373 + (c + 1), rfl, rfl, .inr ⟨by omega, by omega⟩, .inl ⟨_, rfl, _, _, rfl, rfl, (by show (0 : Int) < _; decide), ?_⟩⟩
      refine ⟨_, rfl, .inl ⟨_, rfl, _, 40009, rfl, rfl, (by show (0 : Int) < _; decide), _, 7, rfl, rfl, ?_⟩⟩
      refine ⟨_, rfl, .ref t, rfl, t, _, _, _, rfl, rfl, SqL.of hu, rfl, _, c + 1, rfl, rfl, .ref t, rfl, t, _, _, _, rfl, rfl, SqL.of hu, rfl, bb, 1000003, rfl, rfl, ⟨by decide, by decide⟩, _, _, rfl, rfl, _, rfl, _, _, rfl, rfl, .inr ⟨?_, ?_⟩, .inl ⟨_, rfl, _, 2147483629, rfl, rfl, (by show (0 : Int) < _; decide), ?_⟩⟩
      · omega
      · omega
      refine ⟨_, rfl, _, 48271, rfl, rfl, .inr ⟨by decide, by decide⟩, _, rfl, _, _, rfl, rfl, .inl ⟨_, rfl, _, 2147483587, rfl, rfl, (by show (0 : Int) < _; decide), _, 64, rfl, rfl, ⟨by decide, by decide⟩, .inl ⟨_, rfl, .int n, rfl, _, n, rfl, rfl, hn, ?_⟩⟩⟩
      exact q
end
end Tee
set_option maxRecDepth 100000
set_option maxHeartbeats 4000000
/-! More of the law's own defs by hand. -/
namespace Tee
open PySem PySem.Spec PyProof.Rows L2
theorem sqL_keep {K : PySem.W.Frag} {H H' : Hp} {a : Addr} {xs : List V} (s : Same H H') (q : SqL K H a xs) : SqL K H' a xs := by
  rcases q with (h | ⟨o, h⟩) | h
  · exact .inl (.inl (s _ _ h))
  · exact .inl (.inr ⟨o, s _ _ h⟩)
  · exact .inr h
/-! ### of -/
theorem sc_w_of : FnScope ["_law_tin", "_law_goods_so"] ["_law_tin", "_law_goods_so"] d_w_of.scope := ⟨rfl, rfl, rfl, by decide +kernel, rfl, by decide +kernel, by decide +kernel⟩
section
variable {P : Program} {w : World} {K : PySem.W.Frag} {mg : PySem.Str → Option Value} {base : Heap}
theorem ok_w_of (hd : Hd K mg) : Has P w K mg base ("_law_of", none) 2 ["_law_tin", "_law_goods_so"] spOf := by
  obtain ⟨fd, Fn⟩ := hd.c.def_ 56 (d := d_w_of) rfl
  obtain ⟨fdT, FT, bT, kT⟩ := ok_w_take (P := P) (w := w) (base := base) hd
  have ml : mg "len" = none := hd.free 79 rfl
  have mt : mg "_law_take" = some (.ref (He.ga K "_law_take")) := hd.glo 50 rfl
  refine ⟨fd, Fn.ok sc_w_of (fun vs H Q E h => ?_) (fun cdv A outer s H vs Q E hr h => ⟨_, PSs.nox
    (pss_one (ps_ret (pe_ix ix_list (pv 1) (pe_call (E := E0) FT hr rfl mt kT bT .nil pass0 (pa_cons (pv 0) (pa_cons (pe_callB call_len_seq rfl ml boot_len (pa_cons (pv 1) pa_nil)) pa_nil))) (fun _ _ => rfl)))), ?_⟩), FunD.bindsN Fn fun _ _ _ _ _ _ us hl => match us, hl with | [_, _], _ => rfl, Fn.kp⟩
  · obtain ⟨t, g, a, bb, c, xs, x, rfl, _⟩ := h
    rfl
  · obtain ⟨t, g, a, bb, c, xs, x, rfl, ne, ht, hg, hb, hn, ⟨k, hk, hx⟩, q⟩ := h
    refine ⟨.ref g, rfl, .ref t, rfl, .ref g, rfl, g, xs, rfl, .inl (SqL.of hg), t, a, bb, c, _, rfl, ht, hb, hn, ?_⟩
    refine ⟨g, xs, _, x, rfl, rfl, SqL.of (by rw [upd_ne ne]; exact hg), ?_, q⟩
    rw [hk]
    exact atI_nat hx
/-! ### box -/
theorem bit_in (k : Bool) : -2 ^ 64 < (if k = true then (1 : Int) else 0) ∧ (if k = true then (1 : Int) else 0) < 2 ^ 64 := by cases k <;> decide
theorem bit_nn (k : Bool) : 0 ≤ (if k = true then (1 : Int) else 0) := by cases k <;> decide
def spBox : Sp := fun vs H Q _ => ∃ (l : Addr) (S : Int), vs = [.ref l, .int 0] ∧ H l = some (.lst [.int S]) ∧ ∀ (p : Addr) (a b : Int), H p = none → 0 ≤ a → 0 ≤ b → b < 4611686018427387904 → Q (.ref p) (upd H p (.lst [.int a, .int b, .int 0]))
theorem sc_w_box : FnScope ["_law_script", "_law_k", "_law_bit_so"] ["_law_script", "_law_k"] d_w_box.scope := ⟨rfl, rfl, rfl, by decide +kernel, rfl, by decide +kernel, by decide +kernel⟩
theorem ok_w_box (hd : Hd K mg) : Has P w K mg base ("_law_box", none) 1 ["_law_script", "_law_k"] spBox := by
  obtain ⟨fd, Fn⟩ := hd.c.def_ 53 (d := d_w_box) rfl
  have ml : mg "len" = none := hd.free 79 rfl
  have mi : mg "int" = none := hd.free 86 rfl
  have ma : mg "abs" = none := hd.free 87 rfl
  refine ⟨fd, Fn.ok sc_w_box (fun vs H Q E h => ?_) (fun cdv A outer s H vs Q E hr h => ⟨_, PSs.nox
    (pss_cons (ps_set (i := 2) sc_w_box.nd rfl (.inl rfl) (pe_ifExp (pt_cmpR op_lt (pv 1) (pe_callB call_len_seq rfl ml boot_len (pa_cons (pv 0) pa_nil)) (nomark _)) (pe_ix ix_list (pv 0) (pv 1) (fun _ _ => rfl)) pe_int))
    (pss_one (ps_ret (pe_lst (pa_cons (pe_op op_mul (pe_callB call_abs rfl ma (by decide +kernel) (pa_cons (pv 2) pa_nil)) (pe_callTy call_int1 rfl mi (by decide +kernel) (pa_cons (pe_cmpR op_ge (pe_callB call_abs rfl ma (by decide +kernel) (pa_cons (pv 2) pa_nil)) (pe_op op_pow pe_int pe_int) (nomark _)) pa_nil)))
      (pa_cons (pe_op op_add (pe_op op_add (pe_op op_mod (pe_callTy call_int1 rfl mi (by decide +kernel) (pa_cons (pv 2) pa_nil)) pe_int) (pe_op op_mul pe_int (pv 1))) pe_int) (pa_cons pe_int pa_nil))))))), ?_⟩), FunD.bindsN Fn fun _ _ _ _ _ _ us hl => match us, hl with | [_, _], _ => rfl, Fn.kp⟩
  · obtain ⟨l, S, rfl, _⟩ := h
    rfl
  · obtain ⟨l, S, rfl, hl, q⟩ := h
    refine ⟨.int 0, rfl, .ref l, rfl, l, _, rfl, .inl (SqL.of hl), 0, 1, rfl, rfl, _, rfl, ?_⟩
    refine ite2 (fun _ => ?_) (fun z => absurd (by decide) z)
    refine ⟨.ref l, rfl, .int 0, rfl, l, _, 0, .int S, rfl, rfl, SqL.of hl, rfl, ?_⟩
    have habs : (0 : Int) ≤ if S < 0 then -S else S := by split <;> omega
    refine ⟨.int S, rfl, S, rfl, .int S, rfl, S, rfl, 10, 18, rfl, rfl, ?_, _, 10 ^ 18, rfl, rfl, .inr ⟨_, rfl, ?_⟩⟩
    · exact ⟨by decide, by decide, by decide⟩
    refine ⟨_, _, rfl, rfl, .inr ?_, .int S, rfl, .inl ⟨S, rfl, _, 2305843009213693951, rfl, rfl, (by show (0 : Int) < _; decide), ?_⟩⟩
    · exact bit_in _
    refine ⟨.int 0, rfl, 39373, 0, rfl, rfl, .inl ⟨by decide, by decide⟩, _, _, rfl, rfl, _, _, rfl, rfl, ?_⟩
    refine ⟨line_le (by show 3 ≤ 100000; decide), fun p hp => q p _ _ hp ?_ ?_ ?_⟩
    · exact Int.mul_nonneg habs (bit_nn _)
    · have := Int.emod_nonneg S (show (2305843009213693951 : Int) ≠ 0 by decide)
      omega
    · have := Int.emod_lt_of_pos S (show (0 : Int) < 2305843009213693951 by decide)
      omega
/-! ### cells -/
def spCells (K : PySem.W.Frag) : Sp := fun vs H Q _ => ∃ (a : Addr) (ns : List Int), vs = [.ref a, .int 1] ∧ SqL K H a (ns.map V.int) ∧ ns.length ≤ 63 ∧ ∀ (H' : Hp) (p : Addr) (S : Int), Same H H' → H p = none → H' p = some (.lst [.int S]) → Q (.ref p) H'
theorem sc_w_cells : FnScope ["_law_script", "_law_most_so", "_law_cells_so", "_law_k", "_law_bit_so", "_law_at_so"] ["_law_script", "_law_most_so"] d_w_cells.scope := ⟨rfl, rfl, rfl, by decide +kernel, rfl, by decide +kernel, by decide +kernel⟩
theorem cut_int : ∀ (ns : List Int) (lo hi : Option Int), ∃ ms : List Int, cutV (ns.map V.int) lo hi = ms.map V.int ∧ ms.length ≤ ns.length := fun ns lo hi => by
  refine ⟨(ns.drop (HT.sIx (ns.map V.int).length 0 lo)).take (HT.sIx (ns.map V.int).length (ns.map V.int).length hi - HT.sIx (ns.map V.int).length 0 lo), ?_, ?_⟩
  · unfold cutV
    rw [List.map_take, List.map_drop]
  · rw [List.length_take, List.length_drop]
    omega
theorem cut_one (ns : List Int) : cutV (ns.map V.int) none (some 1) = [] ∨ ∃ n, cutV (ns.map V.int) none (some 1) = [.int n] := by
  cases ns with
  | nil => exact .inl rfl
  | cons n r =>
    refine .inr ⟨n, ?_⟩
    unfold cutV
    have e : HT.sIx ((n :: r).map V.int).length ((n :: r).map V.int).length (some 1) = 1 := by
      have := HT.sIx_nat ((n :: r).map V.int).length ((n :: r).map V.int).length 1
      rw [show ((1 : Nat) : Int) = 1 from rfl] at this
      rw [this, List.length_map, List.length_cons]
      omega
    rw [e]
    rfl
theorem ok_w_cells (hd : Hd K mg) : Has P w K mg base ("_law_cells", none) 1 ["_law_script", "_law_most_so"] (spCells K) := by
  obtain ⟨fd, Fn⟩ := hd.c.def_ 55 (d := d_w_cells) rfl
  have ml : mg "list" = none := hd.free 91 rfl
  have mi : mg "int" = none := hd.free 86 rfl
  have me : mg "enumerate" = none := hd.free 92 rfl
  refine ⟨fd, Fn.ok sc_w_cells (fun vs H Q E h => ?_) (fun cdv A outer s H vs Q E hr h => ⟨_, PSs.nox
    (pss_cons (ps_set (i := 2) sc_w_cells.nd rfl (.inl rfl) (pe_orT (pe_callTy call_list_of rfl ml (by decide +kernel) (pa_cons (pe_slice sl_list (pv 0) po_none (po_some (pv 1))) pa_nil)) (pe_one (pe_lst (pa_cons pe_int pa_nil)))))
    (pss_cons (ps_for PassesOwn.never rfl (pi_enum rfl me (pa_cons (pe_slice sl_list (pv 0) (po_some (pv 1)) (po_some pe_int)) pa_nil)) (pg_tup rfl (pgs_cons (pg_name (i := 3) sc_w_cells.nd rfl (.inl rfl)) (pgs_cons (pg_name (i := 4) sc_w_cells.nd rfl (.inl rfl)) pgs_nil)))
      (pss_cons (ps_set (i := 5) sc_w_cells.nd rfl (.inl rfl) (pe_op op_mod (pe_callTy call_int1 rfl mi (by decide +kernel) (pa_cons (pv 3) pa_nil)) (pv 1)))
      (pss_one (ps_asg (pe_op op_add (pe_ix ix_list (pv 2) (pv 5) (fun _ _ => rfl)) (pe_op op_mul (pv 4) (pe_op op_add (pv 3) pe_int))) (pg_sub (pv 2) (pv 5) set_list)))))
    (pss_one (ps_ret (pv 2))))), ?_⟩), FunD.bindsN Fn fun _ _ _ _ _ _ us hl => match us, hl with | [_, _], _ => rfl, Fn.kp⟩
  · obtain ⟨a, ns, rfl, _⟩ := h
    rfl
  · obtain ⟨a, ns, rfl, hq, hlen, q⟩ := h
    -- behind the first statement
    have main : ∀ (H1 : Hp) (c : Addr) (S0 : Int), Same H H1 → H c = none → H1 c = some (.lst [.int S0]) → tSeq (tFor (L2.iEnum K (tCons (tSl (rSlL K) (tVar 0) (tPart (tVar 1)) (tPart (tC (.int 63)))) tNil)) (gTup K 2 (gCons (gName 3) (gCons (gName 4) gNil))) (tSeq (tAsg (tOp (rI (fun _ j => 0 < j) fun i j => .int (i % j)) (tCB (fun xs H Q => (∃ i, xs = [V.int i] ∧ Q (.int i) H) ∨ ∃ k, xs = [V.bl k] ∧ Q (.int (if k then 1 else 0)) H) (tCons (tVar 3) tNil)) (tVar 1)) (gName 5)) (tAsg (tOp (rI0 fun i j => .int (i + j)) (tOp (rIxL K) (tVar 2) (tVar 5)) (tOp (rI CMul fun i j => .int (i * j)) (tVar 4) (tOp (rI0 fun i j => .int (i + j)) (tVar 3) (tC (.int 2))))) (gSub (tVar 2) (tVar 5) rSetL)))) (tRet (tVar 2)) { nx := fun _ H' => Q .non H', rt := Q } [some (.ref a), some (.int 1), some (.ref c), none, none, none] H1 := by
      intro H1 c S0 s1 nc hc
      obtain ⟨ms, hms, hml⟩ := cut_int ns (some 1) (some 63)
      refine ⟨.ref a, rfl, .int 1, rfl, 1, rfl, 63, rfl, a, _, rfl, sqL_keep s1 hq, fun sl hsl => ?_⟩
      rw [hms]
      refine ⟨sl, _, rfl, SqL.of upd_same, ?_⟩
      have ncs : c ≠ sl := fun z => by
        rw [← z, hc] at hsl
        cases hsl
      refine for_it (walk_enum (K := K) (a := sl) (xs := ms.map V.int)) (fun i σ H' => ∃ v3 v4 v5 S, σ = [some (.ref a), some (.int 1), some (.ref c), v3, v4, v5] ∧ Same H H' ∧ H' sl = some (.lst (ms.map V.int)) ∧ H' c = some (.lst [.int S])) ⟨none, none, none, S0, rfl, s1.trans (same_upd' hsl), upd_same, by rw [upd_ne ncs]; exact hc⟩ (fun i σ H' _ ⟨_, _, _, _, _, _, hs, _⟩ => SqL.of hs) ?_ ?_
      · rintro i x σ H' H'' hi ⟨v3, v4, v5, S, rfl, s2, hsl2, hc2⟩ ⟨T, x1, y1, rfl, hT, rfl, e1, e2⟩
        cases e1
        rw [List.length_map] at hi
        obtain ⟨n, hn, rfl⟩ : ∃ n, ms[i]? = some n ∧ y1 = .int n := by
          have e3 : (ms.map V.int)[i]? = some y1 := e2
          rw [List.getElem?_map] at e3
          cases e : ms[i]? with
          | none =>
            rw [e] at e3
            cases e3
          | some n =>
            rw [e] at e3
            exact ⟨n, rfl, (Option.some.inj e3).symm⟩
        have e0 : ((i : Nat) : Int) % 1 = 0 := Int.emod_one _
        have nT : c ≠ T := fun z => by
          rw [← z, hc2] at hT
          cases hT
        have nS : sl ≠ T := fun z => by
          rw [← z, hsl2] at hT
          cases hT
        have hc3 : upd H' T (.tup [.int (i : Nat), .int n]) c = some (.lst [.int S]) := by
          rw [upd_ne nT]
          exact hc2
        refine ⟨T, _, rfl, SqT.of upd_same, rfl, _, _, rfl, _, _, rfl, rfl, ?_⟩
        refine ⟨.int (i : Nat), rfl, .inl ⟨_, rfl, .int 1, rfl, _, 1, rfl, rfl, (by show (0 : Int) < _; decide), ?_⟩⟩
        have a0 : atI [V.int S] (((i : Nat) : Int) % 1) = some (.int S) := by
          rw [e0]
          rfl
        have x0 : ixN [V.int S].length (((i : Nat) : Int) % 1) = some 0 := by
          rw [e0]
          rfl
        refine ⟨.ref c, rfl, .int (((i : Nat) : Int) % 1), rfl, c, _, _, .int S, rfl, rfl, SqL.of hc3, a0, .int n, rfl, .int (i : Nat), rfl, _, 2, rfl, rfl, n, _, rfl, rfl, .inr ⟨by omega, by omega⟩, S, _, rfl, rfl, ?_⟩
        refine ⟨.ref c, rfl, .int (((i : Nat) : Int) % 1), rfl, c, _, _, 0, rfl, rfl, hc3, x0, ?_⟩
        refine ⟨_, _, _, _, rfl, fun b o e => ?_, ?_, upd_same⟩
        · have nb : b ≠ c := ne_of_none e nc
          have h2 := s2 b o e
          rw [upd_ne nb, upd_ne (ne_of_none h2 hT)]
          exact h2
        · rw [upd_ne (Ne.symm ncs), upd_ne nS]
          exact hsl2
      · rintro σ H' ⟨v3, v4, v5, S, rfl, s2, hsl2, hc2⟩
        exact ⟨.ref c, rfl, q H' c S s2 nc hc2⟩
    refine ⟨.ref a, rfl, .int 1, rfl, 1, rfl, a, _, rfl, hq, fun p hp => ?_⟩
    refine ⟨p, _, rfl, .inl (SqL.of upd_same), fun c hc => ?_⟩
    have npc : p ≠ c := fun z => by
      rw [← z, upd_same] at hc
      cases hc
    have nc : H c = none := by
      rw [upd_ne (Ne.symm npc)] at hc
      exact hc
    have sm : Same H (upd (upd H p (.lst (cutV (ns.map V.int) none (some 1)))) c (.lst (cutV (ns.map V.int) none (some 1)))) := (same_upd' hp).trans (same_upd' hc)
    rcases cut_one ns with e | ⟨n, e⟩
    · rw [e] at sm ⊢
      refine ⟨false, .inl ⟨[], SqL.of upd_same, rfl⟩, ?_⟩
      refine iteF ?_
      refine ⟨line_le (by show 1 ≤ 100000; decide), fun d hd => ?_⟩
      have nd : H d = none := by
        have n1 : d ≠ c := fun z => by
          rw [z, upd_same] at hd
          cases hd
        rw [upd_ne n1] at hd
        have n2 : d ≠ p := fun z => by
          rw [z, upd_same] at hd
          cases hd
        rw [upd_ne n2] at hd
        exact hd
      exact main _ d 0 (sm.trans (same_upd' hd)) nd upd_same
    · rw [e] at sm ⊢
      refine ⟨true, .inl ⟨[.int n], SqL.of upd_same, rfl⟩, ?_⟩
      refine iteT ?_
      exact main _ c n sm nc upd_same
end
end Tee
set_option maxRecDepth 100000
set_option maxHeartbeats 4000000
/-! heard: a try. -/
namespace Tee
open PySem PySem.Spec PyProof.Rows L2
theorem Hd.excC {K : PySem.W.Frag} {mg : PySem.Str → Option Value} (e : Hd K mg) : L2.ExcC K (cnA K) ∧ PySem.W.kitOne K (.ref (cnA K)) (.type "ValueError") = some true := by
  have h := (Bool.and_eq_true_iff.mp e.ex).1
  unfold cnB at h
  obtain ⟨h1, h⟩ := Bool.and_eq_true_iff.mp h
  obtain ⟨h2, h⟩ := Bool.and_eq_true_iff.mp h
  obtain ⟨h3, h⟩ := Bool.and_eq_true_iff.mp h
  obtain ⟨h4, h⟩ := Bool.and_eq_true_iff.mp h
  obtain ⟨h5, h⟩ := Bool.and_eq_true_iff.mp h
  obtain ⟨h6, h⟩ := Bool.and_eq_true_iff.mp h
  obtain ⟨h7, h⟩ := Bool.and_eq_true_iff.mp h
  obtain ⟨h8, h9⟩ := Bool.and_eq_true_iff.mp h
  exact ⟨⟨He.eqO_ok h1, He.eqO_ok h2, of_decide_eq_true h3, h4, He.eqO_ok h5, He.eqO_ok h6, of_decide_eq_true h7, of_decide_eq_true h8⟩, of_decide_eq_true h9⟩
section
variable {P : Program} {w : World} {K : PySem.W.Frag} {mg : PySem.Str → Option Value} {base : Heap}
theorem xA_held {k0 k1 k : Nat} {p0 p1 : List PySem.Str} (h0 : Has P w K mg base ("first_laying", none) k0 p0 (spF (bd0 K w) 1 m_first_laying)) (h1 : Has P w K mg base ("last_laying", none) k1 p1 (spF (bd0 K w) 1 m_last_laying)) (l0 : k0 ≤ k) (l1 : k1 ≤ k) (j : Nat) (ds : List D) (h : xA j ds ≠ .no) :
    HeldX P w K mg base CX0 k (He.ga K (fnName j)) (spX (bd0 K w) (cnA K) 1 (xA j)) ∧ ds.length = 1 := by
  have key : ∀ {f : PySem.Str} {kk : Nat} {pp : List PySem.Str} {g : List D → Option D} {x : List D → Rx}, (∀ ds, x ds = match g ds with | some d => .rt d | none => .no) → kk ≤ k → Has P w K mg base (f, none) kk pp (spF (bd0 K w) 1 g) → HeldX P w K mg base CX0 k (He.ga K f) (spX (bd0 K w) (cnA K) 1 x) := by
    intro f kk pp g x hx hl ⟨fd, Fo, hb, hk⟩
    refine ⟨fd, pp, (Fo.mono hl).imp fun vs H Q E ⟨hn, F, ds, sm, rl, q⟩ => ?_, hk, hb⟩
    rw [hx ds] at q
    cases hg : g ds with
    | none =>
      rw [hg] at q
      exact q.elim
    | some d =>
      rw [hg] at q
      exact ⟨hn, F, ds, d, hg, sm, rl, fun F' v H' a1 a2 a3 a4 a5 => q F' v H' a1 a2 a3 a4 a5⟩
  unfold xA at h
  split at h
  · refine ⟨key (fun ds => rfl) l0 h0, ?_⟩
    cases hg : m_first_laying ds with
    | none =>
      rw [hg] at h
      exact absurd rfl h
    | some d => exact runF_len hg
  · refine ⟨key (fun ds => rfl) l1 h1, ?_⟩
    cases hg : m_last_laying ds with
    | none =>
      rw [hg] at h
      exact absurd rfl h
    | some d => exact runF_len hg
  · exact absurd rfl h
theorem xB_held {k0 k1 k : Nat} {p0 p1 : List PySem.Str} (h0 : HasX P w K mg base ("next_laying", none) k0 p0 (spX (bd0 K w) (cnA K) 2 x_next_laying)) (h1 : HasX P w K mg base ("laying_ahead", none) k1 p1 (spX (bd0 K w) (cnA K) 2 x_laying_ahead)) (l0 : k0 ≤ k) (l1 : k1 ≤ k) (j : Nat) (ds : List D) (h : xB j ds ≠ .no) :
    HeldX P w K mg base (L2.CX P w) k (He.ga K (fnName j)) (spX (bd0 K w) (cnA K) 2 (xB j)) ∧ ds.length = 2 := by
  unfold xB at h
  split at h
  · obtain ⟨fd, Fo, hb, hk⟩ := h0
    exact ⟨⟨fd, p0, Fo.mono l0, hk, hb⟩, runX_len h⟩
  · obtain ⟨fd, Fo, hb, hk⟩ := h1
    exact ⟨⟨fd, p1, Fo.mono l1, hk, hb⟩, runX_len h⟩
  · exact absurd rfl h
theorem sc_w_heard : FnScope ["_law_door_so", "_law_deck", "_law_spread", "slip_so"] ["_law_door_so", "_law_deck", "_law_spread"] d_w_heard.scope := ⟨rfl, rfl, rfl, by decide +kernel, rfl, by decide +kernel, by decide +kernel⟩
/-- the suite's reading -/
def tSuite (K : PySem.W.Frag) (a : Addr) : TS := tRet (tLst (tCons (tC (.str "can not")) (tCons (tCB (rIsE K (cnA K) a) (tCons (tVar 3) (tCons (tC (.ty "ValueError")) tNil))) tNil)))
theorem by_w_heard (hd : Hd K mg) {k : Nat} {k0 k1 k2 k3 : Nat} {p0 p1 p2 p3 : List PySem.Str} (h0 : Has P w K mg base ("first_laying", none) k0 p0 (spF (bd0 K w) 1 m_first_laying)) (h1 : Has P w K mg base ("last_laying", none) k1 p1 (spF (bd0 K w) 1 m_last_laying))
    (h2 : HasX P w K mg base ("next_laying", none) k2 p2 (spX (bd0 K w) (cnA K) 2 x_next_laying)) (h3 : HasX P w K mg base ("laying_ahead", none) k3 p3 (spX (bd0 K w) (cnA K) 2 x_laying_ahead)) (l0 : k0 ≤ k) (l1 : k1 ≤ k) (l2 : k2 ≤ k) (l3 : k3 ≤ k) :
    Body P w K mg base ["_law_door_so", "_law_deck", "_law_spread", "slip_so"] d_w_heard k b_w_heard := fun f cdv A outer s F H E ok hr => by
  obtain ⟨EC, kit⟩ := hd.excC
  have sc := sc_w_heard
  have hve : bootBuiltins "ValueError" = some (.type "ValueError") := by decide +kernel
  refine q_one ((ps_try_as (i := 3) (tb := fun W => tS (bd1 K w F H) (fun σ' H' => σ'.length = 4 → W (.ref (cnA K)) none σ' H') (sQ (sIf (e2 oLt (eV 0) (eC (.int 2))) (sRetC 4 xA (e2 oIx (eLst (aC (eC (.fn 2)) (aC (eC (.fn 3)) aN))) (eV 0)) (aC (eV 1) aN)) sP)
    (sRetC 4 xB (e2 oIx (eLst (aC (eC (.fn 4)) (aC (eC (.fn 5)) aN))) (e2 oSub (eV 0) (eC (.int 2)))) (aC (eV 1) (aC (eV 2) aN))))) (ts := fun a cls d D σ H => cls = .ref (cnA K) ∧ d = none ∧ tSuite K a D σ H) (Wout := fun _ _ _ _ => False) rfl rfl sc.nd rfl rfl ⟨by exact rfl, by decide, .inl (by exact hd.glo 103 rfl)⟩ takes0 (fun W pn xe tk _ => ?_) (fun a oe cls d pn hz hf => ?_)).weak fun D σ H0 ⟨F0, G, S, rel, h⟩ => ?_)
  · have ok2 : Okb (bd1 K w F H) ((cxOf CX0 P w K mg base ["_law_door_so", "_law_deck", "_law_spread", "slip_so"] d_w_heard.qual d_w_heard.scope f cdv A outer s H E).nox.tr pn xe) := ⟨rfl, rfl, ok.un, ok.calm⟩
    refine q_cons (q_if (nLtT ok2 (nV 0) (r_int)) (q_one (q_retC (CX := CX0) (E := L2.WE W) (nIx ok2 (r_lst (aC' (nGlob (d := .fn 2) (v := .ref (He.ga K "first_laying")) (hd.glo 45 rfl) rfl (fun F => by rw [Rep] <;> rfl)) (aC' (nGlob (d := .fn 3) (v := .ref (He.ga K "last_laying")) (hd.glo 46 rfl) rfl (fun F => by rw [Rep] <;> rfl)) a_nil))) (nV 0)) (fun j ds hj => xA_held h0 h1 l0 l1 j ds hj) hr (fun σ pins H s e s' I c => False.elim c) bd_eqv (aC' (nV 1) a_nil))) q_nil)
      (q_one (q_retC (CX := L2.CX P w) (E := L2.WE W) (nIx ok2 (r_lst (aC' (nGlob (d := .fn 4) (v := .ref (He.ga K "next_laying")) (hd.glo 47 rfl) rfl (fun F => by rw [Rep] <;> rfl)) (aC' (nGlob (d := .fn 5) (v := .ref (He.ga K "laying_ahead")) (hd.glo 48 rfl) rfl (fun F => by rw [Rep] <;> rfl)) a_nil))) (nSub ok2 (nV 0) (r_int))) (fun j ds hj => xB_held h2 h3 l2 l3 j ds hj) hr (fun σ => passAt tk σ) bd_eqv (aC' (nV 1) (aC' (nV 2) a_nil))))
  · refine ⟨fun pins s σ H D I ⟨e1, e2, q⟩ => ?_⟩
    subst e1 e2
    exact (pss_one (ps_ret (pe_lst (pa_cons pe_str (pa_cons (pe_callB (call_isE EC hz hf) (by exact rfl) (by exact hd.free 80 rfl) boot_isinstance (pa_cons (pv 3) (pa_cons (show PE _ _ (tC (.ty "ValueError")) from pe_bltn (by exact rfl) (by exact hd.free 95 rfl) hve rfl (by decide) (by decide)) pa_nil))) pa_nil))))).run pins s σ H D I q
  · unfold b_w_heard sTry at h
    refine ⟨F0, G, S, rel, ?_⟩
    split at h
    · rename_i d hm
      rw [hm]
      exact fun F1 v H1 s1 bs hv => h F1 v H1 s1 bs hv
    · rename_i hm
      rw [hm]
      intro F1 σ1 H1 s1 bs hl4
      refine ⟨true, He.exm_ok (hd.c.fact 106 rfl), fun _ a ha => ⟨rfl, rfl, ?_⟩, fun z => nomatch z⟩
      have hs3 : (σ1.set 3 (some (V.ref a)))[3]? = some (some (.ref a)) := by
        rw [List.getElem?_set_self (by omega)]
      refine ⟨.ref a, hs3, .ty "ValueError", .type "ValueError", true, rfl, fun u r => r, kit, ?_⟩
      refine ⟨line_le (by show 2 ≤ 100000; decide), fun p hp => ?_⟩
      have fp : F1 p = none := sameNone bs.sameF hp
      have sF : Same F1 (upd F1 p (.lst [.str "can not", .bl true])) := same_upd' fp
      refine h _ _ _ (s1.trans sF) (bs.grow sF (same_upd' hp) (fun c u e => ?_) fun c z => ?_) ?_
      · by_cases hc : c = p
        · subst hc
          rw [upd_same] at e ⊢
          exact e
        · rw [upd_ne hc] at e ⊢
          exact bs.sameF _ _ e
      · by_cases hc : c = p
        · rw [hc]
          exact .inr hp
        · rw [upd_ne hc] at z
          exact .inl z
      · unfold dCN
        exact rep_newL fp (.cons' Rep.sym' (.cons' Rep.bl' .nil'))
    · exact h.elim
theorem ok_w_heard (hd : Hd K mg) {k : Nat} {k0 k1 k2 k3 : Nat} {p0 p1 p2 p3 : List PySem.Str} (h0 : Has P w K mg base ("first_laying", none) k0 p0 (spF (bd0 K w) 1 m_first_laying)) (h1 : Has P w K mg base ("last_laying", none) k1 p1 (spF (bd0 K w) 1 m_last_laying))
    (h2 : HasX P w K mg base ("next_laying", none) k2 p2 (spX (bd0 K w) (cnA K) 2 x_next_laying)) (h3 : HasX P w K mg base ("laying_ahead", none) k3 p3 (spX (bd0 K w) (cnA K) 2 x_laying_ahead)) (l0 : k0 ≤ k) (l1 : k1 ≤ k) (l2 : k2 ≤ k) (l3 : k3 ≤ k) :
    Has P w K mg base ("_law_heard", none) (k + 1) ["_law_door_so", "_law_deck", "_law_spread"] (spF (bd0 K w) 3 m_w_heard) :=
  has_fn hd 79 (d := d_w_heard) rfl sc_w_heard rfl (fun Fn => FunD.bindsN Fn fun _ _ _ _ _ _ us hl => match us, hl with | [_, _, _], _ => rfl) (by_w_heard hd h0 h1 h2 h3 l0 l1 l2 l3)
end
end Tee
set_option maxRecDepth 1000000
set_option maxHeartbeats 0
noncomputable section
/-! right is right, whatever is drawn. -/
namespace Tee
/-! ### draws -/
theorem ilt_t {i j : Int} (h : i < j) : ilt i j = true := by
  unfold ilt
  cases i with
  | ofNat a =>
    cases j with
    | ofNat b => exact Nat.ble_eq_true_of_le (Int.ofNat_lt.mp h)
    | negSucc b => exact absurd h (by simp only [Int.ofNat_eq_natCast]; omega)
  | negSucc a =>
    cases j with
    | ofNat b => rfl
    | negSucc b =>
      refine Nat.ble_eq_true_of_le ?_
      have : b < a := by omega
      exact this
def TS0 (a b c : Int) : Sl := .lv [.int a, .int b, .int c]
structure Good (m a b c : Int) : Prop where
  a0 : 0 ≤ a
  b0 : 0 ≤ b
  b1 : b < 4611686018427387904
  c0 : 0 ≤ c
  c1 : c ≤ m
theorem drR_in {a b c n : Int} (hn : 0 < n) : ∃ k : Nat, drR a b c n = .ofNat k ∧ (k : Int) < n := by
  have key : ∀ x : Int, ∃ k : Nat, x % n = .ofNat k ∧ (k : Int) < n := fun x => by
    have h1 := Int.emod_nonneg x (show n ≠ 0 by omega)
    have h2 := Int.emod_lt_of_pos x hn
    refine ⟨(x % n).toNat, ?_, ?_⟩
    · exact (Int.toNat_of_nonneg h1).symm
    · rw [Int.toNat_of_nonneg h1]
      exact h2
  unfold drR
  split
  · exact key _
  · exact key _
theorem take_go {m a b c n : Int} {rest : Ss} (g : Good m a b c) (hm : m < 999) (hn : 0 < n) (hn2 : n < 1000) : ∃ (k : Nat) (a' c' : Int), (k : Int) < n ∧ Good (m + 1) a' b c' ∧ takeG 0 n (TS0 a b c :: rest) = .go (.int (.ofNat k)) (TS0 a' b c' :: rest) := by
  obtain ⟨k, hk, hk2⟩ := drR_in (a := a) (b := b) (c := c) hn
  obtain ⟨a0, b0, b1, c0, c1⟩ := g
  refine ⟨k, drA a n, drC a c, hk2, ⟨?_, b0, b1, ?_, ?_⟩, ?_⟩
  · unfold drA
    split
    · exact Int.ediv_nonneg a0 (by omega)
    · exact a0
  · unfold drC
    split <;> omega
  · unfold drC
    split <;> omega
  · have e1 : (ilt 0 n && ilt n 1000) = true := by rw [ilt_t hn, ilt_t hn2]; rfl
    have e2 : ((ilt (-1) a && ilt (-1) b) && (ilt b 4611686018427387904 && (ilt (-1) c && ilt c 1000))) = true := by
      rw [ilt_t (show -1 < a by omega), ilt_t (show -1 < b by omega), ilt_t b1, ilt_t (show -1 < c by omega), ilt_t (show c < 1000 by omega)]
      rfl
    show (match ilt 0 n && ilt n 1000 with
      | true => match (ilt (-1) a && ilt (-1) b) && (ilt b 4611686018427387904 && (ilt (-1) c && ilt c 1000)) with
        | true => Er.go (.int (drR a b c n)) (TS0 (drA a n) b (drC a c) :: rest)
        | false => .no
      | false => .no) = _
    rw [e1, e2, hk]
theorem eTake_go {m a b c n : Int} {rest : Ss} {e : M} (he : e (TS0 a b c :: rest) = .go (.int n) (TS0 a b c :: rest)) (g : Good m a b c) (hm : m < 999) (hn : 0 < n) (hn2 : n < 1000) :
    ∃ (k : Nat) (a' c' : Int), (k : Int) < n ∧ Good (m + 1) a' b c' ∧ eTake 0 e (TS0 a b c :: rest) = .go (.int (.ofNat k)) (TS0 a' b c' :: rest) := by
  obtain ⟨k, a', c', h1, h2, h3⟩ := take_go (rest := rest) g hm hn hn2
  refine ⟨k, a', c', h1, h2, ?_⟩
  show (match e (TS0 a b c :: rest) with
    | .go (.int n) s => takeG 0 n s
    | _ => .no) = _
  rw [he]
  exact h3
theorem eOf_go {m a b c a1 c1 : Int} {rest : Ss} {l : L} {ds : List D} (hl : l (TS0 a b c :: rest) = .go ds (TS0 a1 b c1 :: rest)) (g : Good m a1 b c1) (hm : m < 999) (hn : 0 < ds.length) (hn2 : ds.length < 1000) :
    ∃ (d : D) (a' c' : Int), d ∈ ds ∧ Good (m + 1) a' b c' ∧ eOf 0 l (TS0 a b c :: rest) = .go d (TS0 a' b c' :: rest) := by
  obtain ⟨k, a', c', h1, h2, h3⟩ := take_go (n := ds.length) (rest := rest) g hm (by omega) (by omega)
  have hk : k < ds.length := by omega
  refine ⟨ds[k], a', c', List.getElem_mem hk, h2, ?_⟩
  show (match l (TS0 a b c :: rest) with
    | .go ds s => match takeG 0 ds.length s with
      | .go (.int (.ofNat k)) s => match ds[k]? with
        | some d => Er.go d s
        | none => .no
      | _ => .no
    | .no => .no) = _
  rw [hl]
  dsimp only
  rw [h3]
  dsimp only
  rw [List.getElem?_eq_getElem hk]
/-! ### the statements -/
def st1 : B := sSet 1 (eOf 0 (aC (eTup (aC (eC (.int 1)) (aC (eC (.int 2)) aN))) (aC (eTup (aC (eC (.int 2)) (aC (eC (.int 1)) aN))) (aC (eTup (aC (eC (.int 1)) (aC (eC (.int 3)) aN))) (aC (eTup (aC (eC (.int 3)) (aC (eC (.int 1)) aN))) aN)))))
def st2 : B := sSet 2 (eLC (.s 8) [8] (iOf (eCall t_w_rows (aC (eV 1) aN))) none (e1 oTuple (e1 (oSorted (.l .i)) (eV 8))))
def st3 : B := sPar [3, 4, 5] (pC (eIf (e2 oEq (eTake 0 (eC (.int 2))) (eC (.int 0))) (e1 oList (eV 1)) (eV 1)) (pC (eTake 0 (eC (.int 4))) (pC (eLst (aC (eC (.sym .cannot)) (aC (eC (.bl true)) aN))) pN)))
def st4 : B := sSet 6 (eOf 0 (aC (eC (.int 0)) (aC (e2 oSub (e1 oLen (eV 2)) (eC (.int 1))) (aC (eTake 0 (e1 oLen (eV 2))) (aC (eTake 0 (e1 oLen (eV 2))) aN)))))
def stR : B := (sQ (sSet 7 (e2 oIx (eLst (aC (e2 oIx (eV 2) (eC (.int 0))) (aC (e2 oIx (eV 2) (e1 oNeg (eC (.int 1)))) (aC (eV 5) (aC (eV 5) aN))))) (eV 4)))
  (sQ (sIf (eAnd (e2 oEq (eV 4) (eC (.int 2))) (e2 oLt (e2 oAdd (eV 6) (eC (.int 1))) (e1 oLen (eV 2)))) (sSet 7 (e2 oIx (eV 2) (e2 oAdd (eV 6) (eC (.int 1))))) sP)
  (sQ (sIf (eAnd (e2 oEq (eV 4) (eC (.int 3))) (e2 oGtI (eV 6) (eC (.int 0)))) (sSet 7 (e2 oIx (eV 2) (e2 oSub (eV 6) (eC (.int 1))))) sP)
  (sRet (eCall (m_w_same 6) (aC (eLst (aC (eCall t_heard (aC (eV 4) (aC (eV 3) (aC (eCall (m_w_lists 6) (aC (e2 oIx (eV 2) (eV 6)) aN)) aN)))) aN)) (aC (eLst (aC (eV 7) aN)) aN)))))))
theorem right_is : b_w_right = sQ st1 (sQ st2 (sQ st3 (sQ st4 stR))) := rfl
/-- behind the draws -/
def S4 (x : Sl) (k soft all : D) (door i : Nat) : Ss := [x, .val k, .val all, .val soft, .val (.int (.ofNat door)), .val dCN, .val (.int (.ofNat i)), .no, .no]
def okR (s : Ss) : Bool := match stR s with
  | .rt (.bl true) => true
  | _ => false
theorem okR_ok {s : Ss} (h : okR s = true) : stR s = .rt (.bl true) := by
  unfold okR at h
  split at h
  · assumption
  · cases h
/-- all below n -/
def allB4 (p : Nat → Bool) : Nat → Bool
  | 0 => true
  | n + 1 => p n && allB4 p n
theorem allB4_ok {p : Nat → Bool} : ∀ {n : Nat}, allB4 p n = true → ∀ i, i < n → p i = true
  | 0, _, _, h => absurd h (Nat.not_lt_zero _)
  | n + 1, h, i, hi => by
    have h2 : (p n && allB4 p n) = true := h
    rw [Bool.and_eq_true] at h2
    by_cases e : i = n
    · rw [e]
      exact h2.1
    · exact allB4_ok h2.2 i (by omega)
def okD (x : Sl) (k soft all : D) (n : Nat) : Bool := allB4 (fun door => allB4 (fun i => okR (S4 x k soft all door i)) n) 4
def allOf (ls : List Ly) : D := .lst (ls.map lyT)
theorem d12 : ∀ x, (okD x (dk 1 2) (dk 1 2) (allOf lays12) 6 && okD x (dk 1 2) (kl 1 2) (allOf lays12) 6) = true := by
  intro x
  kernel_rfl
theorem d21 : ∀ x, (okD x (dk 2 1) (dk 2 1) (allOf lays21) 6 && okD x (dk 2 1) (kl 2 1) (allOf lays21) 6) = true := by
  intro x
  kernel_rfl
theorem d13 : ∀ x, (okD x (dk 1 3) (dk 1 3) (allOf lays13) 18 && okD x (dk 1 3) (kl 1 3) (allOf lays13) 18) = true := by
  intro x
  kernel_rfl
theorem d31 : ∀ x, (okD x (dk 3 1) (dk 3 1) (allOf lays31) 18 && okD x (dk 3 1) (kl 3 1) (allOf lays31) 18) = true := by
  intro x
  kernel_rfl
theorem a12 : ∀ x, st2 [x, .val (dk 1 2), .no, .no, .no, .no, .no, .no, .no] = .nx [x, .val (dk 1 2), .val (allOf lays12), .no, .no, .no, .no, .no, .no] := by
  intro x
  kernel_rfl
theorem a21 : ∀ x, st2 [x, .val (dk 2 1), .no, .no, .no, .no, .no, .no, .no] = .nx [x, .val (dk 2 1), .val (allOf lays21), .no, .no, .no, .no, .no, .no] := by
  intro x
  kernel_rfl
theorem a13 : ∀ x, st2 [x, .val (dk 1 3), .no, .no, .no, .no, .no, .no, .no] = .nx [x, .val (dk 1 3), .val (allOf lays13), .no, .no, .no, .no, .no, .no] := by
  intro x
  kernel_rfl
theorem a31 : ∀ x, st2 [x, .val (dk 3 1), .no, .no, .no, .no, .no, .no, .no] = .nx [x, .val (dk 3 1), .val (allOf lays31), .no, .no, .no, .no, .no, .no] := by
  intro x
  kernel_rfl
/-- a deck's whole -/
structure DeckR (p q : Nat) (n : Nat) : Prop where
  ex : ∃ ls : List Ly, ls.length = n ∧ 0 < n ∧ n < 1000 ∧ (∀ x, st2 [x, .val (dk p q), .no, .no, .no, .no, .no, .no, .no] = .nx [x, .val (dk p q), .val (allOf ls), .no, .no, .no, .no, .no, .no]) ∧
    ∀ x, (okD x (dk p q) (dk p q) (allOf ls) n && okD x (dk p q) (kl p q) (allOf ls) n) = true
theorem deck_of {d : D} (h : d ∈ [dP 1 2, dP 2 1, dP 1 3, dP 3 1]) : ∃ p q n, d = dk p q ∧ DeckR p q n := by
  rcases List.mem_cons.mp h with rfl | h
  · exact ⟨1, 2, 6, rfl, ⟨lays12, rfl, by decide, by decide, a12, d12⟩⟩
  rcases List.mem_cons.mp h with rfl | h
  · exact ⟨2, 1, 6, rfl, ⟨lays21, rfl, by decide, by decide, a21, d21⟩⟩
  rcases List.mem_cons.mp h with rfl | h
  · exact ⟨1, 3, 18, rfl, ⟨lays13, rfl, by decide, by decide, a13, d13⟩⟩
  rcases List.mem_cons.mp h with rfl | h
  · exact ⟨3, 1, 18, rfl, ⟨lays31, rfl, by decide, by decide, a31, d31⟩⟩
  · cases h
theorem right_true {a b : Int} (ha : 0 ≤ a) (hb : 0 ≤ b) (hb2 : b < 4611686018427387904) : b_w_right [TS0 a b 0, .no, .no, .no, .no, .no, .no, .no, .no] = .rt (.bl true) := by
  rw [right_is]
  have g0 : Good 0 a b 0 := ⟨ha, hb, hb2, by omega, by omega⟩
  -- the deck
  obtain ⟨d, a1, c1, hd, g1, v1⟩ := eOf_go (a := a) (c := 0) (rest := [.no, .no, .no, .no, .no, .no, .no, .no]) (l := aC (eTup (aC (eC (.int 1)) (aC (eC (.int 2)) aN))) (aC (eTup (aC (eC (.int 2)) (aC (eC (.int 1)) aN))) (aC (eTup (aC (eC (.int 1)) (aC (eC (.int 3)) aN))) (aC (eTup (aC (eC (.int 3)) (aC (eC (.int 1)) aN))) aN)))) (ds := [dP 1 2, dP 2 1, dP 1 3, dP 3 1]) rfl g0 (by omega) (by decide) (by decide)
  obtain ⟨p, q, n, rfl, ⟨ls, hn, hn0, hn1, hA, hD⟩⟩ := deck_of hd
  have s1 : st1 [TS0 a b 0, .no, .no, .no, .no, .no, .no, .no, .no] = .nx [TS0 a1 b c1, .val (dk p q), .no, .no, .no, .no, .no, .no, .no] := set_nx v1
  rw [q_nx s1, q_nx (hA (TS0 a1 b c1))]
  -- soft, door
  obtain ⟨k2, a2, c2, hk2, g2, v2⟩ := eTake_go (e := eC (.int 2)) (n := 2) (rest := [.val (dk p q), .val (allOf ls), .no, .no, .no, .no, .no, .no]) rfl g1 (by omega) (by decide) (by decide)
  obtain ⟨door, a3, c3, hk3, g3, v3⟩ := eTake_go (e := eC (.int 4)) (n := 4) (rest := [.val (dk p q), .val (allOf ls), .no, .no, .no, .no, .no, .no]) rfl g2 (by omega) (by decide) (by decide)
  have hsoft : ∃ soft, (soft = dk p q ∨ soft = kl p q) ∧ eIf (e2 oEq (eTake 0 (eC (.int 2))) (eC (.int 0))) (e1 oList (eV 1)) (eV 1) [TS0 a1 b c1, .val (dk p q), .val (allOf ls), .no, .no, .no, .no, .no, .no] = .go soft [TS0 a2 b c2, .val (dk p q), .val (allOf ls), .no, .no, .no, .no, .no, .no] := by
    have hk : k2 = 0 ∨ k2 = 1 := by omega
    rcases hk with rfl | rfl
    · refine ⟨kl p q, .inr rfl, ?_⟩
      unfold eIf
      rw [e2_go (b := eC (.int 0)) v2 rfl (show oEq (.int (.ofNat 0)) (.int 0) = some (.bl true) from rfl)]
      rfl
    · refine ⟨dk p q, .inl rfl, ?_⟩
      unfold eIf
      rw [e2_go (b := eC (.int 0)) v2 rfl (show oEq (.int (.ofNat 1)) (.int 0) = some (.bl false) from rfl)]
      rfl
  obtain ⟨soft, hs, v4⟩ := hsoft
  have s3 : st3 [TS0 a1 b c1, .val (dk p q), .val (allOf ls), .no, .no, .no, .no, .no, .no] = .nx [TS0 a3 b c3, .val (dk p q), .val (allOf ls), .val soft, .val (.int (.ofNat door)), .val dCN, .no, .no, .no] := by
    unfold st3 sPar pC
    rw [v4]
    dsimp only
    rw [v3]
    rfl
  rw [q_nx s3]
  -- the index
  have hlen : ∀ x, e1 oLen (eV 2) (x :: [.val (dk p q), .val (allOf ls), .val soft, .val (.int (.ofNat door)), .val dCN, .no, .no, .no]) = .go (.int (.ofNat n)) (x :: [.val (dk p q), .val (allOf ls), .val soft, .val (.int (.ofNat door)), .val dCN, .no, .no, .no]) := fun x => by
    have : oLen (allOf ls) = some (.int (.ofNat n)) := by
      show oint ((ls.map lyT).length : Nat) = _
      rw [oint_some, List.length_map, hn]
      rfl
    show (match oLen (allOf ls) with
      | some z => Er.go z (x :: [.val (dk p q), .val (allOf ls), .val soft, .val (.int (.ofNat door)), .val dCN, .no, .no, .no])
      | none => .no) = _
    rw [this]
  obtain ⟨k5, a5, c5, hk5, g5, v5⟩ := eTake_go (hlen (TS0 a3 b c3)) g3 (by omega) (by show (0 : Int) < (n : Int); omega) (by show (n : Int) < 1000; omega)
  obtain ⟨k6, a6, c6, hk6, g6, v6⟩ := eTake_go (hlen (TS0 a5 b c5)) g5 (by omega) (by show (0 : Int) < (n : Int); omega) (by show (n : Int) < 1000; omega)
  have hsub : oSub (.int (.ofNat n)) (.int 1) = some (.int (.ofNat (n - 1))) := by
    show oint (Int.ofNat n - 1) = _
    rw [oint_some]
    have : Int.ofNat n - 1 = Int.ofNat (n - 1) := by
      simp only [Int.ofNat_eq_natCast]
      omega
    rw [this]
  obtain ⟨d7, a7, c7, hd7, g7, v7⟩ := eOf_go (l := aC (eC (.int 0)) (aC (e2 oSub (e1 oLen (eV 2)) (eC (.int 1))) (aC (eTake 0 (e1 oLen (eV 2))) (aC (eTake 0 (e1 oLen (eV 2))) aN)))) (ds := [.int (.ofNat 0), .int (.ofNat (n - 1)), .int (.ofNat k5), .int (.ofNat k6)]) (rest := [.val (dk p q), .val (allOf ls), .val soft, .val (.int (.ofNat door)), .val dCN, .no, .no, .no])
    (aC_go rfl (aC_go (e2_go (hlen (TS0 a3 b c3)) rfl hsub) (aC_go v5 (aC_go v6 aN_go)))) g6 (by omega) (by show 0 < 4; decide) (by show 4 < 1000; decide)
  obtain ⟨i, rfl, hi⟩ : ∃ i : Nat, d7 = .int (.ofNat i) ∧ i < n := by
    have hk5' : k5 < n := by
      have : (k5 : Int) < (n : Int) := hk5
      omega
    have hk6' : k6 < n := by
      have : (k6 : Int) < (n : Int) := hk6
      omega
    rcases List.mem_cons.mp hd7 with rfl | h
    · exact ⟨0, rfl, hn0⟩
    rcases List.mem_cons.mp h with rfl | h
    · exact ⟨n - 1, rfl, by omega⟩
    rcases List.mem_cons.mp h with rfl | h
    · exact ⟨k5, rfl, hk5'⟩
    rcases List.mem_cons.mp h with rfl | h
    · exact ⟨k6, rfl, hk6'⟩
    · cases h
  have s4 : st4 [TS0 a3 b c3, .val (dk p q), .val (allOf ls), .val soft, .val (.int (.ofNat door)), .val dCN, .no, .no, .no] = .nx (S4 (TS0 a7 b c7) (dk p q) soft (allOf ls) door i) := set_nx v7
  rw [q_nx s4]
  have hdoor : door < 4 := by
    have : (door : Int) < 4 := hk3
    omega
  have hx := hD (TS0 a7 b c7)
  rw [Bool.and_eq_true] at hx
  rcases hs with rfl | rfl
  · exact okR_ok (allB4_ok (allB4_ok hx.1 door hdoor) i hi)
  · exact okR_ok (allB4_ok (allB4_ok hx.2 door hdoor) i hi)
end Tee
end
set_option maxRecDepth 100000
set_option maxHeartbeats 4000000
/-! The law. -/
namespace Tee
open PySem PySem.Spec PyProof.Rows L2
section
variable {P : Program} {w : World} {K : PySem.W.Frag} {mg : PySem.Str → Option Value} {base : Heap}
/-! ### defs called by keywords -/
theorem hask_first (hd : Hd K mg) {k : Nat} (h : Body P w K mg base ["floor"] d_first_laying k b_first_laying) : HasK P w K mg base "first_laying" (k + 1) ["floor"] (spF (bd0 K w) 1 m_first_laying) := by
  obtain ⟨fd, Fn⟩ := hd.c.def_ 49 (d := d_first_laying) rfl
  refine ⟨fd, ["floor"], _, _, _, fn_lift Fn sc_first_laying h, kbn_of Fn 0 ["floor"] (fun us ws => us ++ ws) (fun r1 r2 => r1.append r2) (fun kV doc pm an cdv ct us ws l1 l2 => ?_), Fn.kp, fun zs H Q E hz => ⟨hz.1, hz⟩⟩
  match us, ws, l1, l2 with
  | [], [_], _, _ => rfl
/-- a value that a keyword's place puts first -/
def flip2 {α : Type} (us ws : List α) : List α := us ++ match ws with
  | [a, b] => [b, a]
  | l => l
theorem fnx_plain {k n : Nat} {f cn : Addr} {fd : FuncData} {ps : List PySem.Str} {c : Bd} {x : List D → Rx} (F : FnOk P w K mg base (L2.CX P w) k f fd ps (spX c cn n x)) : FnOk P w K mg base CX0 k f fd ps (spF c n fun ds => match x ds with
    | .rt d => some d
    | _ => none) := by
  refine ⟨fun vs H Q E h => F.len vs H Q (fun _ _ _ => False) ?_, fun A outer s H args us vs Q E hr he hb hv hs => ?_⟩
  · obtain ⟨hl, F0, ds, d, hg, sm, rl, q⟩ := h
    dsimp only at hg
    refine ⟨hl, F0, ds, sm, rl, ?_⟩
    cases hx : x ds with
    | rt d' =>
      rw [hx] at hg
      cases hg
      exact q
    | no =>
      rw [hx] at hg
      cases hg
    | ex =>
      rw [hx] at hg
      cases hg
  · have hs2 : spX c cn n x vs H Q (fun _ _ _ => False) := by
      obtain ⟨hl, F0, ds, d, hg, sm, rl, q⟩ := hs
      dsimp only at hg
      refine ⟨hl, F0, ds, sm, rl, ?_⟩
      cases hx : x ds with
      | rt d' =>
        rw [hx] at hg
        cases hg
        exact q
      | no =>
        rw [hx] at hg
        cases hg
      | ex =>
        rw [hx] at hg
        cases hg
    refine codeAny_mono (F.run A outer s H args us vs Q (fun _ _ _ => False) hr he hb hv hs2) fun r s' hq => ?_
    cases r with
    | error e =>
      obtain ⟨a, B, H', cls, d, _, _, _, _, _, _, _, z⟩ := hq
      exact z.elim
    | ok fl =>
      cases fl with
      | ret u => exact hq
      | next => exact hq
      | brk => exact hq
      | cont => exact hq
theorem hask_next (hd : Hd K mg) {k : Nat} (h : BodyX P w K mg base ["floor", "laying", "own", "told"] d_next_laying k b_next_laying) : HasK P w K mg base "next_laying" (k + 1) ["laying", "floor"] (spF (bd0 K w) 2 kw_next) := by
  obtain ⟨fd, Fn⟩ := hd.c.def_ 51 (d := d_next_laying) rfl
  have F0 := fnx_plain (fnx_lift Fn sc_next_laying h)
  refine ⟨fd, ["floor", "laying"], _, _, _, F0, kbn_of Fn 0 ["laying", "floor"] (fun us ws => flip2 us ws) (fun r1 r2 => ?_) (fun kV doc pm an cdv ct us ws l1 l2 => ?_), Fn.kp, fun zs H Q E hz => ?_⟩
  · unfold flip2
    refine r1.append ?_
    cases r2 with
    | nil => exact .nil
    | cons a r2 =>
      cases r2 with
      | nil => exact .cons a .nil
      | cons b r2 =>
        cases r2 with
        | nil => exact .cons b (.cons a .nil)
        | cons c r2 => exact .cons a (.cons b (.cons c r2))
  · match us, ws, l1, l2 with
    | [], [_, _], _, _ => rfl
  · obtain ⟨hl, F1, ds, d, hg, sm, rl, q⟩ := hz
    match zs, hl with
    | [u, v], _ =>
      refine ⟨rfl, rfl, F1, ?_⟩
      have hd2 : ds.length = 2 := rl.len
      match ds, hd2 with
      | [x, y], _ =>
        obtain ⟨v1, r1, e1, q1, rl⟩ := rl.uncons
        obtain ⟨v2, r2, e2, q2, rl⟩ := rl.uncons
        have e3 := rl.unnil
        subst e3 e2
        cases e1
        refine ⟨[y, x], d, ?_, sm, .cons' q2 (.cons' q1 .nil'), q⟩
        exact hg
/-! ### right -/
def spRight : Sp := fun vs H Q _ => ∃ (t : Addr) (a b : Int), vs = [.ref t] ∧ H t = some (.lst [.int a, .int b, .int 0]) ∧ 0 ≤ a ∧ 0 ≤ b ∧ b < 4611686018427387904 ∧ ∀ H', Q (.bl true) H'
def hide (t : Addr) (H : Hp) : Hp := fun x => if x = t then none else H x
theorem ok_w_right (hd : Hd K mg) {k : Nat} (hb : BodyH P w K mg base ["_law_tin", "_law_deck", "_law_all_so", "_law_soft_so", "_law_door_so", "_law_none_so", "_law_k", "_law_due", "_law_own"] d_w_right k b_w_right) : Has P w K mg base ("_law_right", none) (k + 1) ["_law_tin"] spRight := by
  obtain ⟨fd, Fn⟩ := hd.c.def_ 81 (d := d_w_right) rfl
  refine ⟨fd, Fn.ok sc_w_right (fun vs H Q E h => ?_) (fun cdv A outer s H vs Q E hr h => ?_), FunD.bindsN Fn fun _ _ _ _ _ _ us hl => match us, hl with | [_], _ => rfl, Fn.kp⟩
  · obtain ⟨t, a, b, rfl, _⟩ := h
    rfl
  · obtain ⟨t, a, b, rfl, ht, ha, hb0, hb1, q⟩ := h
    refine ⟨_, PSs.nox (hb _ cdv A outer s (fun _ => none) (hide t H) H E ⟨rfl, rfl, hr.units, rfl⟩ hr), ?_⟩
    have nl : ∀ j x, LiveAt [TS0 a b 0, .no, .no, .no, .no, .no, .no, .no, .no] (L2.start ["_law_tin", "_law_deck", "_law_all_so", "_law_soft_so", "_law_door_so", "_law_none_so", "_law_k", "_law_due", "_law_own"] [V.ref t]) j x → j = 0 := fun j x l => by
      match j, l with
      | 0, _ => rfl
      | 1, l => cases l.1
      | 2, l => cases l.1
      | 3, l => cases l.1
      | 4, l => cases l.1
      | 5, l => cases l.1
      | 6, l => cases l.1
      | 7, l => cases l.1
      | 8, l => cases l.1
      | n + 9, l => cases l.1
    have b0 : Base (bd1 K w (fun _ => none) (hide t H)) (fun _ => none) [] H := by
      refine ⟨?_, ?_, ?_, ?_, ?_⟩
      · intro x o e
        cases e
      · intro x o e
        have e2 : hide t H x = some o := e
        unfold hide at e2
        split at e2
        · cases e2
        · exact e2
      · intro x o e
        exact e
      · intro x z
        exact absurd rfl z
      · intro p hp
        cases hp
    refine ⟨fun _ => none, [], [TS0 a b 0, .no, .no, .no, .no, .no, .no, .no, .no], ⟨b0, rfl, fun i => ?_, fun i j x l1 l2 => by rw [nl i x l1, nl j x l2], fun p hp => by cases hp⟩, ?_⟩
    · match i with
      | 0 => exact ⟨t, _, rfl, ht, rfl, by show hide t H t = none; unfold hide; rw [if_pos rfl], ints_rep⟩
      | 1 => exact True.intro
      | 2 => exact True.intro
      | 3 => exact True.intro
      | 4 => exact True.intro
      | 5 => exact True.intro
      | 6 => exact True.intro
      | 7 => exact True.intro
      | 8 => exact True.intro
      | n + 9 => exact True.intro
    · rw [right_true ha hb0 hb1]
      intro F' v H' s1 bs hv
      rw [bl_of hv]
      exact q H'
/-! ### the law itself -/
def spLaw (K : PySem.W.Frag) : Sp := fun vs H Q _ => ∃ (a : Addr) (ns : List Int), vs = [.ref a] ∧ SqL K H a (ns.map V.int) ∧ ns.length ≤ 63 ∧ ∀ H', Q (.bl true) H'
theorem sc_law : FnScope ["_law_script"] ["_law_script"] d_law.scope := ⟨rfl, rfl, rfl, by decide +kernel, rfl, by decide +kernel, by decide +kernel⟩
theorem ok_law {f : Addr} {fd : FuncData} (Fn : FunD K d_law.name d_law.qual d_law.params d_law.body d_law.scope (d_law.dvs K) (d_law.kws K) f fd) (hd : Hd K mg) {k : Nat} {p0 : List PySem.Str} (h1 : Has P w K mg base ("_law_by_hand_right", none) k p0 (spF (bd0 K w) 0 m_w_by_hand_right)) (h2 : Has P w K mg base ("_law_right", none) k ["_law_tin"] spRight) (hk : 1 ≤ k) :
    FnOk P w K mg base CX0 (k + 1) f fd ["_law_script"] (spLaw K) := by
  obtain ⟨f1, F1, b1, k1⟩ := h1
  obtain ⟨f2, F2, b2, k2⟩ := h2
  obtain ⟨f3, F3, b3, k3⟩ := ok_w_box (P := P) (w := w) (base := base) hd
  obtain ⟨f4, F4, b4, k4⟩ := ok_w_cells (P := P) (w := w) (base := base) hd
  have g1 : mg "_law_by_hand_right" = some (.ref (He.ga K "_law_by_hand_right")) := hd.glo 76 rfl
  have g2 : mg "_law_right" = some (.ref (He.ga K "_law_right")) := hd.glo 77 rfl
  have g3 : mg "_law_box" = some (.ref (He.ga K "_law_box")) := hd.glo 49 rfl
  have g4 : mg "_law_cells" = some (.ref (He.ga K "_law_cells")) := hd.glo 51 rfl
  refine Fn.ok sc_law (fun vs H Q E h => ?_) (fun cdv A outer s H vs Q E hr h => ⟨_, PSs.nox
    (pss_one (ps_ret (pe_and (pe_call0 (E := E0) F1 hr rfl g1 k1 b1 .nil pass0) (pe_one (pe_call (E := E0) F2 hr rfl g2 k2 b2 .nil pass0 (pa_cons (pe_call (E := E0) F3 (hr.mono hk) rfl g3 k3 b3 .nil pass0 (pa_cons (pe_call (E := E0) F4 (hr.mono hk) rfl g4 k4 b4 .nil pass0 (pa_cons (pv 0) (pa_cons pe_int pa_nil))) (pa_cons pe_int pa_nil))) pa_nil)))))), ?_⟩)
  · obtain ⟨a, ns, rfl, _⟩ := h
    rfl
  · obtain ⟨a, ns, rfl, hS, hl, q⟩ := h
    refine ⟨rfl, fun _ => none, [], .bl true, isS_ok hand_ok, fun x o e => (by cases e), .nil', fun F' v H' sH sF nw sFH hv => ?_⟩
    rw [bl_of hv]
    refine ⟨true, rfl, iteT ?_⟩
    refine ⟨.ref a, rfl, a, ns, rfl, sqL_keep sH hS, hl, fun H2 p S s2 np hp => ?_⟩
    refine ⟨p, S, rfl, hp, fun p2 x y hp2 hx hy hy2 => ?_⟩
    exact ⟨p2, x, y, rfl, upd_same, hx, hy, hy2, q⟩
end
end Tee
set_option maxRecDepth 100000
set_option maxHeartbeats 0
/-! The end. -/
namespace Tee
open PySem PySem.Spec PyProof.Rows L2
theorem law_fn {P : Program} {w : World} {K : PySem.W.Frag} {mg : PySem.Str → Option Value} {base : Heap} {f : Addr} {fd : FuncData} (Fn : FunD K d_law.name d_law.qual d_law.params d_law.body d_law.scope (d_law.dvs K) (d_law.kws K) f fd) (hd : Hd K mg) : FnOk P w K mg base CX0 18 f fd ["_law_script"] (spLaw K) := by
  obtain ⟨h_first, h_last, hx_next, hx_ahead, h_same, h_lists, h_rows, b_first, b_next⟩ := all_ok (P := P) (w := w) (base := base) hd
  have h_heard := ok_w_heard (k := 14) hd h_first h_last hx_next hx_ahead (by decide) (by decide) (by decide) (by decide)
  have h_ahead : Has P w K mg base ("laying_ahead", none) 14 ["floor", "laying"] (spF (bd0 K w) 2 m_ahead0) := by
    obtain ⟨fd2, F2, b2, k2⟩ := hx_ahead
    exact ⟨fd2, fnx_plain F2, b2, k2⟩
  have h_hand := ok_w_by_hand_right hd h_same h_heard h_ahead (hask_next hd b_next) h_lists h_last (hask_first hd b_first)
  have h_right := ok_w_right hd (by_w_right hd h_same (h_heard.imp t_heard_ok) h_lists (ok_w_of hd) (ok_w_take hd) (h_rows.imp t_rows_ok))
  exact ok_law (k := 17) Fn hd (h_hand.mono (by decide)) (h_right.mono (by decide)) (by decide)
theorem facts {P : Program} {w : World} {K : PySem.W.Frag} {h : Heap} {mg : PySem.Str → Option Value} {f : Addr} (X : K.In h) (G : h.Ns mainGlobals mg) (hfa : mg ("law" : PySem.Str) = some (.ref f)) (c : He.SaysD fa fn K) (ex : exB K = true) :
    ∃ fd : FuncData, (∀ (s : Shared) (v : Value), BindsTo s fd ⟨[v], []⟩ [("_law_script", v)]) ∧ ∀ base : Heap, K.In base → base.Ns mainGlobals mg → FnOk P w K mg base CX0 18 f fd ["_law_script"] (spLaw K) := by
  have hd : Hd K mg := ⟨c, ⟨h, X, G⟩, ex⟩
  obtain ⟨fd, Fn⟩ := c.def_ 82 (d := d_law) rfl
  have e := hfa.symm.trans (hd.glo 78 rfl)
  cases e
  have bA := FunD.bindsA (ps := ["_law_script"]) Fn fun _ _ _ _ _ _ us hl => match us, hl with | [_], _ => rfl
  exact ⟨fd, fun s v => bA s [v] rfl, fun base _ _ => law_fn Fn hd⟩
end Tee
open PySem PySem.W PySem.Calls PyProof.Rows
theorem PySem.Challenge.cw_teefloors_k48_whole_next_layings_holds : PySem.Challenge.rw_teefloors_k48_whole_next_layings.Holds := by
  w_on; o_law
  refine HandSHeadRun.head_any (r := Tee.Rw) (q := view Tee.Rw.prog [Tee.LAWI]) (H := Tee.hk) (ob := Tee.hob) (M := 12000) (loose := Tee.names) (d := HandSHeadRun.topDef Tee.Rw.prog Tee.LAWI) (kwd := []) Tee.hob_eq
    (by kernel_rfl) (fun s => by kernel_rfl) Tee.run (by kernel_rfl) (by kernel_rfl) (by kernel_rfl) (by rfl) (by first | assumption | decide +kernel) (by decide +kernel) ⟨rfl, rfl, rfl, rfl, rfl, by decide +kernel⟩ ?hw ?hc
  case hw => w_witness2
  case hc =>
    refine L2.walk_ofE (l := PySem.Challenge.rw_teefloors_k48_whole_next_layings) (n := 63) (k := 18) (x := "_law_script") (CX := L2.CX0) rfl (by decide) (by kernel_rfl) ⟨rfl, by decide, by decide⟩ ?F (fun _ _ _ _ z => z)
    intro w mg fa h Y G hmg0
    obtain ⟨K, KX, c, ex⟩ := Y
    have hmg : mg ("law" : PySem.Str) = some (.ref fa) := by
      have e : (HandSHeadRun.topDef Tee.Rw.prog Tee.LAWI).name = ("law" : PySem.Str) := by kernel_rfl
      rw [← e]
      exact hmg0
    obtain ⟨fd, hb, hF⟩ := Tee.facts (P := (PySem.Challenge.rw_teefloors_k48_whole_next_layings).prog) (w := w) KX G hmg c ex
    exact ⟨K, fd, Tee.spLaw K, KX, hb, fun H a ns hl _ hS => ⟨a, ns, rfl, hS, hl, fun _ => rfl⟩, hF⟩
