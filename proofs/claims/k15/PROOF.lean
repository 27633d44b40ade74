import PyProof.Rows.All
import Wide.All
import OpenK.AllK
import Wide.FinOn
import PySem.Syntax
import HandS.ForMost
import HandS.ForExc
import HandS.IsInst
import HandS.Conv
import HandS.DictComp
import HandS.DictTup
import HandS.TupAny
import HandS.Defaults
import HandS.CallSlots
import HandS.TryMany
import HandS.ExcInit
import HandS.ExcField
import HandS.OwnEq
import HandS.Wide
import HandS.Codes
import HandS.Zip
import HandS.Flow
import HandS.Deep
import HandS.Style
import HandS.More
import HandS.Strs
import KE.KDictWalk
import PyProof.ListStr
import PySem.Eval
import KE.KStateDown
import HandS.Ends
import HandS.Words
import HandS.WordsExc
import HandS.Head0
import HandS.Head1
import HandS.Head2
import HandS.HeadEnd
import HandS.HeadHook1
import HandS.HeadHook2
import PySem.Challenge.RW_fieldbounds_k15_whole_greater_stays_grea
set_option Elab.async false
set_option linter.all false
set_option maxRecDepth 100000
set_option maxHeartbeats 0
/-! A small language for the programs of this set, over pure data: its meaning by weakest preconditions. -/
namespace Mi
open PySem
abbrev Ky := Sum Int Str
/-- pure data; bot: nothing is known -/
inductive D where
  | bot | non | bl (b : Bool) | int (i : Int) | str (x : Str)
  | tup (xs : List D) | lst (xs : List D)
  | ftp (xs : List D)
  | dK (kvs : List (Ky × D)) | dT (kvs : List (List Ky × D))
  | obj (c : Nat) (fs : List (Str × D))
  | exc (c : Nat) (fs : List (Str × D))
  deriving Inhabited
/-- what one name owns, and may change -/
inductive Cell where
  | lst (xs : List D) | dK (kvs : List (Ky × D)) | dT (kvs : List (List Ky × D)) | obj (c : Nat) (fs : List (Str × D)) | draw
  deriving Inhabited
def Cell.d : Cell → D
  | .lst xs => .lst xs | .dK k => .dK k | .dT k => .dT k | .obj c f => .obj c f | .draw => .bot
/-- may be frozen -/
def Cell.fz : Cell → Bool
  | .draw => false
  | _ => true
inductive Slot where
  | non | val (d : D) | own (c : Cell)
  deriving Inhabited
inductive Res where
  | val (d : D) | own (c : Cell) | slot (i : Nat)
  deriving Inhabited
def Res.isVal : Res → Bool
  | .val _ => true
  | _ => false
abbrev Env := List Slot
structure Xc where
  c : Nat
  fs : List (Str × D)
abbrev FS := List Slot → (Res → List Slot → Prop) → (Xc → List Slot → Prop) → Prop
def Slot.rd : Slot → D
  | .val d => d | .own c => c.d | .non => .bot
def Env.rd (r : Env) (i : Nat) : D := (r.getD i .non).rd
/-- the content of an operand -/
def rdR (r : Env) : Res → D
  | .val d => d | .own c => c.d | .slot i => r.rd i
def slR (r : Env) : Res → Slot
  | .val d => .val d | .own c => .own c | .slot i => r.getD i .non
/-! ### data -/
def kD : Ky → D
  | .inl i => .int i | .inr x => .str x
def keyOf : D → Option Ky
  | .int i => some (.inl i) | .str x => some (.inr x) | _ => none
def keysOf : List D → Option (List Ky)
  | [] => some []
  | d :: ds => match keyOf d, keysOf ds with
    | some k, some ks => some (k :: ks)
    | _, _ => none
/-- a tuple as a key -/
def tkey : List D → Option (List Ky)
  | [] => none
  | d :: ds => keysOf (d :: ds)
section
variable {α β : Type} [DecidableEq α]
def valG (kvs : List (α × β)) (k : α) : Option β := (kvs.find? fun kv => decide (kv.1 = k)).map (·.2)
def putG (kvs : List (α × β)) (k : α) (v : β) : List (α × β) :=
  if (kvs.any fun kv => decide (kv.1 = k)) = true then kvs.map (fun kv => if kv.1 = k then (kv.1, v) else kv) else kvs ++ [(k, v)]
end
def ixG (n : Nat) (i : Int) : Option Nat := if 0 ≤ i then (if i < n then some i.toNat else none) else if -(n : Int) ≤ i then some (i + n).toNat else none
def atG {α : Type} (xs : List α) (i : Int) : Option α := (ixG xs.length i).bind fun j => xs[j]?
/-- a bound of a slice -/
def sIxG (n d : Nat) : Option Int → Nat
  | none => d
  | some i => if i < 0 then (i + n).toNat else min i.toNat n
def cutG {α : Type} (xs : List α) (lo hi : Option Int) : List α := (xs.drop (sIxG xs.length 0 lo)).take (sIxG xs.length xs.length hi - sIxG xs.length 0 lo)
def cutStr (z : Str) (lo hi : Option Int) : Str := ⟨(cutG z.cps.toList lo hi).toArray⟩
def big : Nat := 16777216
/-- a text of signs -/
def okS (x : Str) : Bool := x.cps.all (· < 0x110000)
def okK : Ky → Bool
  | .inl _ => true
  | .inr x => okS x
/-! ### == -/
mutual
def D.eqv : D → D → Bool
  | .non, .non => true
  | .bl a, .bl b => a == b
  | .bl a, .int j => (if a then 1 else 0) == j
  | .int i, .bl b => i == (if b then 1 else 0)
  | .int i, .int j => i == j
  | .str x, .str y => x == y
  | .lst xs, .lst ys => D.eqvs xs ys
  | .tup xs, .tup ys => D.eqvs xs ys
  | .ftp xs, .tup ys => D.eqvs xs ys
  | .tup xs, .ftp ys => D.eqvs xs ys
  | .ftp xs, .ftp ys => D.eqvs xs ys
  | _, _ => false
def D.eqvs : List D → List D → Bool
  | [], [] => true
  | x :: xs, y :: ys => D.eqv x y && D.eqvs xs ys
  | _, _ => false
end
mutual
/-- no dict and no object within -/
def D.plain : D → Bool
  | .non | .bl _ | .int _ | .str _ => true
  | .lst xs | .tup xs | .ftp xs => D.plains xs
  | _ => false
def D.plains : List D → Bool
  | [] => true
  | x :: xs => D.plain x && D.plains xs
end
mutual
def D.dep : D → Nat
  | .lst xs | .tup xs | .ftp xs => D.deps xs + 1
  | _ => 0
def D.deps : List D → Nat
  | [] => 0
  | x :: xs => max (D.dep x) (D.deps xs)
end
def D.bad : D → Bool
  | .bot => true
  | _ => false
def D.isNon : D → Bool
  | .non => true
  | _ => false
def D.flat : D → Bool
  | .non | .bl _ | .int _ | .str _ => true
  | _ => false
def inG (x : D) (xs : List D) : Bool := xs.any fun y => D.eqv y x
/-- items of what is walked -/
def D.items : D → Option (List D)
  | .lst xs | .tup xs | .ftp xs => some xs
  | .str x => if x.length ≤ big then some (x.cps.toList.map fun c => .str ⟨#[c]⟩) else none
  | .dK kvs => some (kvs.map fun kv => kD kv.1)
  | .dT kvs => some (kvs.map fun kv => .tup (kv.1.map kD))
  | _ => none
/-! ### the language -/
inductive Blt where
  | ftuple1 | len | abs | max1 | min1 | max2 | min2 | max1d | min1d | int1 | list1 | tuple1 | dict1 | sum1 | all1 | any1 | str1
  deriving DecidableEq
inductive Mth where
  | get1 | get2 | index | join | values | count | split
  deriving DecidableEq
inductive Mu where
  | append | insert | clear | reverse | pop
  deriving DecidableEq
inductive Cls where
  | int | bool | str | tuple | list | own (c : Nat) | verr
  deriving DecidableEq
/-- operators that are methods of an own class -/
inductive Dk where
  | in_ | nin | eq | band | neg | len
  deriving DecidableEq
inductive Tg where
  | name (i : Nat) | tup (ts : List Tg)
mutual
inductive IE where
  | var (i : Nat) | con (d : D)
  | frz (a : IE)
  | bin (op : Operator) (a b : IE) | neg (a : IE)
  | cmp (op : CmpOp) (a b : IE) | chn (op op2 : CmpOp) (a b c : IE)
  | and (a b : IE) | or (a b : IE) | not (a : IE) | ifx (c a b : IE)
  | tup (es : List IE) | lst (es : List IE) | dct (t : Bool) (es : List IE)
  | sub (a b : IE) | slc (a : IE) (lo hi : Option IE) | rvs (a : IE)
  | att (a : IE) (f : Str)
  | blt (b : Blt) (es : List IE) | mth (m : Mth) (a : IE) (es : List IE) | mut (m : Mu) (i : Nat) (es : List IE)
  | isi (a : IE) (c : Cls)
  | call (f : Nat) (es : List IE) (ds : List D) | make (c : Nat) (f : Nat) (es : List IE) (ds : List D) | mcl (c : Nat) (m : Str) (f : Nat) (a : IE) (es : List IE) (ds : List D)
  | lcp (tg : Tg) (it : II) (ifs : Option IE) (elt : IE) (vs : List Nat)
  | lc2 (tg : Tg) (it : II) (ifs : Option IE) (tg2 : Tg) (it2 : II) (ifs2 : Option IE) (elt : IE) (vs vs1 : List Nat)
  | dcp (t : Bool) (tg : Tg) (it : II) (ifs : Option IE) (k v : IE) (vs : List Nat)
  | dc2 (t : Bool) (tg : Tg) (it : II) (ifs : Option IE) (tg2 : Tg) (it2 : II) (ifs2 : Option IE) (k v : IE) (vs vs1 : List Nat)
  | drw (e : IE) (i : Nat)
  | dnu (k : Dk) (c f : Nat) (a : IE) | dnb (k : Dk) (c f : Nat) (a b : IE)
inductive II where
  | it (e : IE) | rng (e : IE) | rng2 (a b : IE) | enum (e : IE) | zip (a b : IE) | items (e : IE)
end
inductive IS where
  | exp (e : IE) | asg (tg : Tg) (e : IE) | par (ns : List Nat) (es : List IE) | aug (i : Nat) (op : Operator) (e : IE)
  | ret (e : IE) | retN | ite (c : IE) (a b : List IS)
  | for (tg : Tg) (it : II) (b : List IS) | whl (c : IE) (b : List IS)
  | rse (c : Nat) (fn : List Str) (es : List IE)
  | pas | brk | cnt | nev
  | sti (i : Nat) (k v : IE) | sta (i : Nat) (c : Nat) (f : Str) (v : IE)
  | tryA (b : List IS) (c : Nat) (i : Nat) (h : List IS)
/-! ### its meaning -/
/-- an operand: a fresh thing is frozen, a name that owns stays -/
def opdR (r : Res) (ρ : Env) (Q : Res → Env → Prop) : Prop := match r with
  | .val d => Q (.val d) ρ
  | .own c => c.fz = true ∧ Q (.val c.d) ρ
  | .slot i => Q (.slot i) ρ
/-- frozen for good -/
def frzR (r : Res) (ρ : Env) (Q : Res → Env → Prop) : Prop := match r with
  | .val d => Q (.val d) ρ
  | .own c => c.fz = true ∧ Q (.val c.d) ρ
  | .slot i => match ρ[i]? with
    | some (.own c) => c.fz = true ∧ Q (.val c.d) (ρ.set i (.val c.d))
    | _ => False
/-- a binary operator, by values -/
def binW (op : Operator) (x y : D) (Q : Res → Prop) : Prop := match op, x, y with
  | .Add, .int i, .int j => Q (.val (.int (i + j)))
  | .Sub, .int i, .int j => Q (.val (.int (i - j)))
  | .Mult, .int i, .int j => ((-(2 ^ 64) < i ∧ i < 2 ^ 64) ∨ (-(2 ^ 64) < j ∧ j < 2 ^ 64)) ∧ Q (.val (.int (i * j)))
  | .FloorDiv, .int i, .int j => (j ≠ 0 ∧ j.natAbs < 2 ^ 9000) ∧ Q (.val (.int (i.fdiv j)))
  | .Mod, .int i, .int j => j ≠ 0 ∧ Q (.val (.int (i.fmod j)))
  | .Pow, .int i, .int j => (0 ≤ j ∧ j ≤ 1000000 ∧ i.natAbs < 2 ^ 64) ∧ Q (.val (.int (i ^ j.toNat)))
  | .Add, .str a, .str b => a.length + b.length ≤ big ∧ Q (.val (.str (a ++ b)))
  | .Add, .lst a, .lst b => a.length + b.length ≤ big ∧ Q (.own (.lst (a ++ b)))
  | .Add, .tup a, .tup b => a.length + b.length ≤ big ∧ Q (.val (.tup (a ++ b)))
  | _, _, _ => False
/-- a text of one sign -/
def signOf : D → Option Nat
  | .str z => match z.cps.toList with
    | [c] => some c
    | _ => none
  | _ => none
theorem signOf_eq {d : D} {c : Nat} (h : signOf d = some c) : d = .str ⟨#[c]⟩ := by
  cases d with
  | str z =>
    obtain ⟨l⟩ := z
    have h1 : (match l.toList with | [c] => some c | _ => none) = some c := h
    split at h1
    · rename_i c1 e
      cases h1
      have : l = #[c] := by rw [← Array.toArray_toList (xs := l), e]
      rw [this]
    · cases h1
  | _ => cases h
def isMem (x y : D) (Q : Bool → Prop) : Prop := match y with
  | .lst ys => (x.plain = true ∧ D.plains ys = true ∧ x.dep ≤ 60 ∧ D.deps ys ≤ 60) ∧ Q (inG x ys)
  | .tup ys => (x.flat = true ∧ ys.all D.flat = true) ∧ Q (inG x ys)
  | .ftp ys => (x.flat = true ∧ ys.all D.flat = true) ∧ Q (inG x ys)
  | .dK kvs => match keyOf x with
    | some k => Q (valG kvs k).isSome
    | none => False
  | .dT kvs => match x with
    | .tup ks => match tkey ks with
      | some k => Q (valG kvs k).isSome
      | none => False
    | _ => False
  | .str z => match signOf x with
    | some c => Q (decide (c ∈ z.cps.toList))
    | none => False
  | _ => False
def cmpW (op : CmpOp) (x y : D) (Q : Bool → Prop) : Prop := match op with
  | .Eq => (x.plain = true ∧ y.plain = true ∧ min x.dep y.dep ≤ 60) ∧ Q (D.eqv x y)
  | .NotEq => (x.plain = true ∧ y.plain = true ∧ min x.dep y.dep ≤ 60) ∧ Q (!D.eqv x y)
  | .Lt => match x, y with
    | .int i, .int j => Q (decide (i < j))
    | _, _ => False
  | .LtE => match x, y with
    | .int i, .int j => Q (decide (i ≤ j))
    | _, _ => False
  | .Gt => match x, y with
    | .int i, .int j => Q (decide (j < i))
    | _, _ => False
  | .GtE => match x, y with
    | .int i, .int j => Q (decide (j ≤ i))
    | _, _ => False
  | .Is => match y with
    | .non => x.bad = false ∧ Q x.isNon
    | _ => False
  | .IsNot => match y with
    | .non => x.bad = false ∧ Q (!x.isNon)
    | _ => False
  | .In => isMem x y Q
  | .NotIn => isMem x y fun b => Q (!b)
def truW (x : D) (Q : Bool → Prop) : Prop := match x with
  | .bl b => Q b
  | _ => False
def subW (x i : D) (Q : D → Prop) : Prop := match x with
  | .lst xs => match i with
    | .int j => match atG xs j with
      | some d => Q d
      | none => False
    | _ => False
  | .tup xs => match i with
    | .int j => match atG xs j with
      | some d => Q d
      | none => False
    | _ => False
  | .ftp xs => match i with
    | .int j => match atG xs j with
      | some d => Q d
      | none => False
    | _ => False
  | .dK kvs => match keyOf i with
    | some k => match valG kvs k with
      | some d => Q d
      | none => False
    | none => False
  | .dT kvs => match i with
    | .tup ks => match tkey ks with
      | some k => match valG kvs k with
        | some d => Q d
        | none => False
      | none => False
    | _ => False
  | _ => False
def intO : D → Option Int
  | .int i => some i
  | _ => none
def slcW (x : D) (lo hi : Option Int) (Q : Res → Prop) : Prop := match x with
  | .lst xs => Q (.own (.lst (cutG xs lo hi)))
  | .str z => z.length ≤ big ∧ Q (.val (.str (cutStr z lo hi)))
  | .tup xs => Q (.val (.tup (cutG xs lo hi)))
  | _ => False
def rvsW (x : D) (Q : Res → Prop) : Prop := match x with
  | .lst xs => Q (.own (.lst xs.reverse))
  | _ => False
def attW (x : D) (f : Str) (Q : D → Prop) : Prop := match x with
  | .obj _ fs => match valG fs f with
    | some d => Q d
    | none => False
  | .exc _ fs => match valG fs f with
    | some d => Q d
    | none => False
  | _ => False
def intsOf : List D → Option (List Int)
  | [] => some []
  | .int i :: ds => match intsOf ds with
    | some r => some (i :: r)
    | none => none
  | _ => none
def blsOf : List D → Option (List Bool)
  | [] => some []
  | .bl i :: ds => match blsOf ds with
    | some r => some (i :: r)
    | none => none
  | _ => none
def strsOf : List D → Option (List Str)
  | [] => some []
  | .str i :: ds => match strsOf ds with
    | some r => some (i :: r)
    | none => none
  | _ => none
def maxL : Int → List Int → Int
  | m, [] => m
  | m, x :: xs => maxL (if x > m then x else m) xs
def minL : Int → List Int → Int
  | m, [] => m
  | m, x :: xs => minL (if x < m then x else m) xs
def bltW (b : Blt) (xs : List D) (Q : Res → Prop) : Prop := match b, xs with
  | .len, [.lst ys] => Q (.val (.int ys.length))
  | .len, [.tup ys] => Q (.val (.int ys.length))
  | .len, [.ftp ys] => Q (.val (.int ys.length))
  | .len, [.str z] => z.length ≤ big ∧ Q (.val (.int z.length))
  | .len, [.dK kvs] => Q (.val (.int kvs.length))
  | .abs, [.int i] => Q (.val (.int (if i < 0 then -i else i)))
  | .max2, [.int i, .int j] => Q (.val (.int (if j > i then j else i)))
  | .min2, [.int i, .int j] => Q (.val (.int (if j < i then j else i)))
  | .max1, [.lst ds] => match intsOf ds with
    | some (n :: ns) => Q (.val (.int (maxL n ns)))
    | _ => False
  | .min1, [.lst ds] => match intsOf ds with
    | some (n :: ns) => Q (.val (.int (minL n ns)))
    | _ => False
  | .int1, [.int i] => Q (.val (.int i))
  | .int1, [.bl b] => Q (.val (.int (if b then 1 else 0)))
  | .list1, [x] => match x with
    | .lst ds => Q (.own (.lst ds))
    | .tup ds => Q (.own (.lst ds))
    | .ftp ds => Q (.own (.lst ds))
    | .str z => z.length ≤ big ∧ Q (.own (.lst (z.cps.toList.map fun c => .str ⟨#[c]⟩)))
    | .dK kvs => Q (.own (.lst (kvs.map fun kv => kD kv.1)))
    | .dT kvs => Q (.own (.lst (kvs.map fun kv => .tup (kv.1.map kD))))
    | _ => False
  | .tuple1, [.lst ds] => Q (.val (.tup ds))
  | .tuple1, [.tup ds] => Q (.val (.tup ds))
  | .tuple1, [.ftp ds] => Q (.val (.ftp ds))
  | .ftuple1, [.lst ds] => Q (.val (.ftp ds))
  | .dict1, [.dK kvs] => Q (.own (.dK kvs))
  | .sum1, [.lst ds] => match intsOf ds with
    | some ns => Q (.val (.int ns.sum))
    | none => False
  | .all1, [.lst ds] => match blsOf ds with
    | some bs => Q (.val (.bl (bs.all id)))
    | none => False
  | .any1, [.lst ds] => match blsOf ds with
    | some bs => Q (.val (.bl (bs.any id)))
    | none => False
  | _, _ => False
/-- the first place of x -/
def idxG (x : D) : List D → Option Nat
  | [] => none
  | y :: ys => if D.eqv y x = true then some 0 else (idxG x ys).map (· + 1)
def mthW (m : Mth) (x : D) (xs : List D) (Q : Res → Prop) : Prop := match m, x, xs with
  | .get1, .dK kvs, [k] => match keyOf k with
    | some k => Q (.val ((valG kvs k).getD .non))
    | none => False
  | .get2, .dK kvs, [k, z] => match keyOf k with
    | some k => z.flat = true ∧ Q (.val ((valG kvs k).getD z))
    | none => False
  | .get1, .dT kvs, [.tup ks] => match tkey ks with
    | some k => Q (.val ((valG kvs k).getD .non))
    | none => False
  | .get2, .dT kvs, [.tup ks, z] => match tkey ks with
    | some k => z.flat = true ∧ Q (.val ((valG kvs k).getD z))
    | none => False
  | .index, .lst ys, [y] => (y.flat = true ∧ ys.all D.flat = true) ∧ match idxG y ys with
    | some j => Q (.val (.int j))
    | none => False
  | .index, .ftp ys, [.str z] => match strsOf ys with
    | some ss => match ss.findIdx? (fun s => decide (s = z)) with
      | some j => Q (.val (.int j))
      | none => False
    | none => False
  | .join, .str sep, [.lst ds] => match strsOf ds with
    | some ss => (ss.map (·.length)).sum + ss.length * sep.length ≤ big ∧ Q (.val (.str (Str.join sep ss)))
    | none => False
  | _, _, _ => False
def muW (m : Mu) (ys : List D) (xs : List D) (Q : D → List D → Prop) : Prop := match m, xs with
  | .append, [x] => ys.length < big ∧ Q .non (ys ++ [x])
  | .insert, [.int i, x] => (ys.length < big ∧ 0 ≤ i ∧ i ≤ ys.length) ∧ Q .non (ys.take i.toNat ++ [x] ++ ys.drop i.toNat)
  | .clear, [] => Q .non []
  | .reverse, [] => Q .non ys.reverse
  | .pop, [.int i] => match ixG ys.length i with
    | some j => match ys[j]? with
      | some y => Q y (ys.eraseIdx j)
      | none => False
    | none => False
  | _, _ => False
def D.kind : D → Nat
  | .lst _ => 1 | .tup _ => 2 | .ftp _ => 5 | .dK _ => 3 | .dT _ => 3 | .str _ => 4 | _ => 0
def rcvOk (m : Mth) (k : Nat) : Bool := match m with
  | .get1 | .get2 => k == 3
  | .index => k == 1 || k == 5
  | .join => k == 4
  | _ => false
def isiB (c : Cls) : D → Bool
  | .int _ => c == .int
  | .bl _ => c == .bool || c == .int
  | .str _ => c == .str
  | .tup _ => c == .tuple
  | .ftp _ => c == .tuple
  | .lst _ => c == .list
  | .obj k _ => c == .own k
  | _ => false
def isiOk : D → Bool
  | .bot => false
  | .exc _ _ => false
  | .dT _ => false
  | _ => true
def Tg.slots : Tg → List Nat
  | .name i => [i]
  | .tup ts => slotsT ts
where slotsT : List Tg → List Nat
  | [] => []
  | t :: ts => t.slots ++ slotsT ts
mutual
def bindT : Tg → D → Env → Option Env
  | .name i, d, ρ => if i < ρ.length then some (ρ.set i (.val d)) else none
  | .tup ts, .tup ds, ρ => bindTs ts ds ρ
  | .tup _, _, _ => none
def bindTs : List Tg → List D → Env → Option Env
  | [], [], ρ => some ρ
  | t :: ts, d :: ds, ρ => match bindT t d ρ with
    | some ρ1 => bindTs ts ds ρ1
    | none => none
  | _, _, _ => none
end
def wipeE (ρ : Env) : List Nat → Env
  | [] => ρ
  | v :: vs => (wipeE ρ vs).set v .non
def backE (ρ0 : Env) (ρ : Env) : List Nat → Env
  | [] => ρ
  | v :: vs => (backE ρ0 ρ vs).set v (ρ0.getD v .non)
def noOwn (ρ : Env) (vs : List Nat) : Prop := ∀ v ∈ vs, ∀ c, ρ[v]? ≠ some (.own c)
/-- what is walked: its items, and the slot that owns it -/
def Guard (g : Option Nat) (ds : List D) (ρ : Env) : Prop := match g with
  | none => True
  | some i => ρ[i]? = some (.own (.lst ds))
/-- the turns of a comprehension -/
def turns (g : Option Nat) (all : List D) (f : D → Env → (Option D → Env → Prop) → Prop) : List D → Env → List D → (List D → Env → Prop) → Prop
  | [], ρ, acc, Q => Q acc ρ
  | x :: xs, ρ, acc, Q => f x ρ fun o ρ1 => Guard g all ρ1 ∧ turns g all f xs ρ1 (match o with | some y => acc ++ [y] | none => acc) Q
/-- one turn of a comprehension -/
def lcF (tg : Tg) (vs : List Nat) (wf : Env → (Bool → Env → Prop) → Prop) (we : Env → (Res → Env → Prop) → (Xc → Env → Prop) → Prop) (d : D) (ρ2 : Env) (K : Option D → Env → Prop) : Prop := match bindT tg d ρ2 with
  | some ρ3 => wf ρ3 fun b ρ4 => if b = true then we ρ4 (fun r ρ5 => frzR r ρ5 fun y ρ6 => K (some (rdR ρ6 y)) (wipeE ρ6 vs)) (fun _ _ => False) else K none (wipeE ρ4 vs)
  | none => False
/-- a store into a dict -/
def putD (c : Cell) (k v : D) (Q : Cell → Prop) : Prop := match c with
  | .dK kvs => match keyOf k with
    | some q => kvs.length < big ∧ Q (.dK (putG kvs q v))
    | none => False
  | .dT kvs => match k with
    | .tup ks => match tkey ks with
      | some q => kvs.length < big ∧ Q (.dT (putG kvs q v))
      | none => False
    | _ => False
  | _ => False
def nilC : Bool → Cell
  | true => .dT []
  | false => .dK []
abbrev BD := Env → Cell → (Cell → Env → Prop) → Prop
/-- the turns of a clause that fills a cell -/
def turnsC (g : Option Nat) (all : List D) (f : D → BD) : List D → Env → Cell → (Cell → Env → Prop) → Prop
  | [], ρ, c, Q => Q c ρ
  | x :: xs, ρ, c, Q => f x ρ c fun c1 ρ1 => Guard g all ρ1 ∧ turnsC g all f xs ρ1 c1 Q
def dcF (tg : Tg) (vs : List Nat) (wf : Env → (Bool → Env → Prop) → Prop) (bd : BD) (d : D) : BD := fun ρ c K => match bindT tg d ρ with
  | some ρ1 => wf ρ1 fun b ρ2 => if b = true then bd ρ2 c (fun c1 ρ3 => K c1 (wipeE ρ3 vs)) else K c (wipeE ρ2 vs)
  | none => False
/-- key, value, store -/
def bdPut (wk wv : Env → (Res → Env → Prop) → (Xc → Env → Prop) → Prop) : BD := fun ρ c K => wk ρ (fun r ρ1 => frzR r ρ1 fun x ρ2 => wv ρ2 (fun r ρ3 => frzR r ρ3 fun y ρ4 => putD c (rdR ρ2 x) (rdR ρ4 y) fun c1 => K c1 ρ4) fun _ _ => False) fun _ _ => False
/-- one more item -/
def bdApp (we : Env → (Res → Env → Prop) → (Xc → Env → Prop) → Prop) : BD := fun ρ c K => we ρ (fun r ρ1 => frzR r ρ1 fun x ρ2 => match c with
  | .lst acc => acc.length < big ∧ K (.lst (acc ++ [rdR ρ2 x])) ρ2
  | _ => False) fun _ _ => False
/-- a second clause -/
def bdInn (tg : Tg) (vs vs1 : List Nat) (wi : Env → (Option Nat → List D → Env → Prop) → (Xc → Env → Prop) → Prop) (wf : Env → (Bool → Env → Prop) → Prop) (bd : BD) : BD := fun ρ c K => wi ρ (fun g ds ρ1 => (noOwn ρ1 vs1 ∧ (∀ i, g = some i → i ∉ vs1) ∧ (∀ i ∈ tg.slots, i ∈ vs1) ∧ ∀ i ∈ vs1, i ∈ vs) ∧
  turnsC g ds (dcF tg vs1 wf bd) ds (wipeE ρ1 vs1) c K) fun _ _ => False
def pairsG : List D → Option (List (Ky × D))
  | [] => some []
  | [_] => none
  | k :: v :: r => match keyOf k, pairsG r with
    | some q, some ps => some ((q, v) :: ps)
    | _, _ => none
def back1 : List Res → List Slot → Env → Env
  | .slot i :: rs, s :: ss, ρ => back1 rs ss (ρ.set i s)
  | _ :: rs, _ :: ss, ρ => back1 rs ss ρ
  | _, _, ρ => ρ
def slotsIn (rs : List Res) : List Nat := rs.filterMap fun r => match r with | .slot i => some i | _ => none
def zipG : List D → List D → List D
  | x :: xs, y :: ys => .tup [x, y] :: zipG xs ys
  | _, _ => []
def enumG : Nat → List D → List D
  | _, [] => []
  | n, x :: xs => .tup [.int n, x] :: enumG (n + 1) xs
def rngG (lo : Int) (n : Nat) : List D := (List.range n).map fun (i : Nat) => .int (lo + i)
/-- a call by the callee's promise -/
def callW (Γ : Nat → FS) (f : Nat) (rs : List Res) (ρ : Env) (Q : Res → Env → Prop) (E : Xc → Env → Prop) : Prop :=
  (slotsIn rs).Nodup ∧ Γ f (rs.map (slR ρ)) (fun r ss => Q r (back1 rs ss ρ)) fun x ss => E x (back1 rs ss ρ)
/-- what such an operator hands on -/
def dunR : Dk → Res → (Res → Prop) → Prop
  | .neg, z, Q => Q z
  | .band, .own (.obj c fs), Q => Q (.own (.obj c fs))
  | .len, .val (.int n), Q => (0 ≤ n ∧ n < 2 ^ 62) ∧ Q (.val (.int n))
  | .in_, .val (.bl b), Q => Q (.val (.bl b))
  | .nin, .val (.bl b), Q => Q (.val (.bl (!b)))
  | .eq, .val (.bl b), Q => Q (.val (.bl b))
  | _, _, _ => False
/-- the one whose method it is -/
def dunS (k : Dk) (x y : Res) : Res := match k with
  | .in_ => y | .nin => y | _ => x
def dunA (k : Dk) (x y : Res) : List Res := match k with
  | .in_ => [y, x] | .nin => [y, x] | _ => [x, y]
def dunO (k : Dk) (c : Nat) (d : D) : Prop := match k with
  | .eq => match d with
    | .obj c2 _ => c2 = c
    | d => isiOk d = true
  | .band => match d with
    | .obj c2 _ => c2 = c
    | _ => False
  | _ => True
section
variable (Γ : Nat → FS)
mutual
def wp : IE → Env → (Res → Env → Prop) → (Xc → Env → Prop) → Prop
  | .var i, ρ, Q, _ => match ρ[i]? with
    | some (.val d) => Q (.val d) ρ
    | some (.own _) => Q (.slot i) ρ
    | _ => False
  | .con d, ρ, Q, _ => Q (.val d) ρ
  | .frz a, ρ, Q, E => wp a ρ (fun r ρ1 => frzR r ρ1 Q) E
  | .bin op a b, ρ, Q, E => wp a ρ (fun r ρ1 => opdR r ρ1 fun x ρ2 => wp b ρ2 (fun r ρ3 => opdR r ρ3 fun y ρ4 => binW op (rdR ρ4 x) (rdR ρ4 y) fun z => Q z ρ4) E) E
  | .neg a, ρ, Q, E => wp a ρ (fun r ρ1 => opdR r ρ1 fun x ρ2 => match rdR ρ2 x with
    | .int i => Q (.val (.int (-i))) ρ2
    | _ => False) E
  | .cmp op a b, ρ, Q, E => wp a ρ (fun r ρ1 => opdR r ρ1 fun x ρ2 => wp b ρ2 (fun r ρ3 => opdR r ρ3 fun y ρ4 => cmpW op (rdR ρ4 x) (rdR ρ4 y) fun z => Q (.val (.bl z)) ρ4) E) E
  | .chn op op2 a b c, ρ, Q, E => wp a ρ (fun r ρ1 => opdR r ρ1 fun x ρ2 => wp b ρ2 (fun r ρ3 => opdR r ρ3 fun y ρ4 => cmpW op (rdR ρ4 x) (rdR ρ4 y) fun z =>
      if z = true then wp c ρ4 (fun r ρ5 => opdR r ρ5 fun w ρ6 => cmpW op2 (rdR ρ6 y) (rdR ρ6 w) fun z2 => Q (.val (.bl z2)) ρ6) E else Q (.val (.bl false)) ρ4) E) E
  | .and a b, ρ, Q, E => wp a ρ (fun r ρ1 => opdR r ρ1 fun x ρ2 => truW (rdR ρ2 x) fun c => if c = true then wp b ρ2 Q E else Q (.val (.bl false)) ρ2) E
  | .or a b, ρ, Q, E => wp a ρ (fun r ρ1 => opdR r ρ1 fun x ρ2 => truW (rdR ρ2 x) fun c => if c = true then Q (.val (.bl true)) ρ2 else wp b ρ2 Q E) E
  | .not a, ρ, Q, E => wp a ρ (fun r ρ1 => opdR r ρ1 fun x ρ2 => truW (rdR ρ2 x) fun c => Q (.val (.bl (!c))) ρ2) E
  | .ifx c a b, ρ, Q, E => wp c ρ (fun r ρ1 => opdR r ρ1 fun x ρ2 => truW (rdR ρ2 x) fun k => if k = true then wp a ρ2 Q E else wp b ρ2 Q E) E
  | .tup es, ρ, Q, E => wpL es ρ (fun rs ρ1 => (rs.all Res.isVal = true ∧ rs.length ≤ big) ∧ Q (.val (.tup (rs.map (rdR ρ1)))) ρ1) E
  | .lst es, ρ, Q, E => wpL es ρ (fun rs ρ1 => (rs.all Res.isVal = true ∧ rs.length ≤ big) ∧ Q (.own (.lst (rs.map (rdR ρ1)))) ρ1) E
  | .dct t es, ρ, Q, E => wpZ es ρ (fun ds ρ1 => match t, ds with
    | true, [] => Q (.own (.dT [])) ρ1
    | true, _ => False
    | false, ds => match pairsG ds with
      | some ps => ps.length ≤ 15 ∧ Q (.own (.dK (ps.foldl (fun a p => putG a p.1 p.2) []))) ρ1
      | none => False) E
  | .sub a b, ρ, Q, E => wp a ρ (fun r ρ1 => opdR r ρ1 fun x ρ2 => wp b ρ2 (fun r ρ3 => opdR r ρ3 fun y ρ4 => subW (rdR ρ4 x) (rdR ρ4 y) fun z => Q (.val z) ρ4) E) E
  | .slc a lo hi, ρ, Q, E => wp a ρ (fun r ρ1 => opdR r ρ1 fun x ρ2 => wpO lo ρ2 (fun l ρ3 => wpO hi ρ3 (fun h ρ4 => slcW (rdR ρ4 x) l h fun z => Q z ρ4) E) E) E
  | .rvs a, ρ, Q, E => wp a ρ (fun r ρ1 => opdR r ρ1 fun x ρ2 => rvsW (rdR ρ2 x) fun z => Q z ρ2) E
  | .att a f, ρ, Q, E => wp a ρ (fun r ρ1 => opdR r ρ1 fun x ρ2 => attW (rdR ρ2 x) f fun z => Q (.val z) ρ2) E
  | .blt b es, ρ, Q, E => wpL es ρ (fun rs ρ1 => bltW b (rs.map (rdR ρ1)) fun z => Q z ρ1) E
  | .mth m a es, ρ, Q, E => wp a ρ (fun r ρ1 => opdR r ρ1 fun x ρ2 => rcvOk m (rdR ρ2 x).kind = true ∧ wpL es ρ2 (fun rs ρ3 => (rdR ρ3 x).kind = (rdR ρ2 x).kind ∧ mthW m (rdR ρ3 x) (rs.map (rdR ρ3)) fun z => Q z ρ3) E) E
  | .mut m i es, ρ, Q, E => match ρ[i]? with
    | some (.own (.lst _)) => wpL es ρ (fun rs ρ1 => rs.all Res.isVal = true ∧ match ρ1[i]? with
      | some (.own (.lst ys)) => muW m ys (rs.map (rdR ρ1)) fun z zs => Q (.val z) (ρ1.set i (.own (.lst zs)))
      | _ => False) E
    | _ => False
  | .isi a c, ρ, Q, E => wp a ρ (fun r ρ1 => opdR r ρ1 fun x ρ2 => isiOk (rdR ρ2 x) = true ∧ Q (.val (.bl (isiB c (rdR ρ2 x)))) ρ2) E
  | .call f es ds, ρ, Q, E => wpL es ρ (fun rs ρ1 => callW Γ f (rs ++ ds.map Res.val) ρ1 Q E) E
  | .make c f es ds, ρ, Q, E => wpL es ρ (fun rs ρ1 => (slotsIn rs).Nodup ∧ Γ f (.own (.obj c []) :: (rs ++ ds.map Res.val).map (slR ρ1))
      (fun r ss => match r, ss with
        | .val .non, .own (.obj c2 fs) :: ss => c2 = c ∧ Q (.own (.obj c fs)) (back1 (rs ++ ds.map Res.val) ss ρ1)
        | _, _ => False) fun x ss => E x (back1 (rs ++ ds.map Res.val) ss.tail ρ1)) E
  | .mcl c m f a es ds, ρ, Q, E => wp a ρ (fun r ρ1 => opdR r ρ1 fun x ρ2 => match rdR ρ2 x with
    | .obj c2 fs => (c2 = c ∧ valG fs m = none) ∧ wpL es ρ2 (fun rs ρ3 => callW Γ f ((x :: rs) ++ ds.map Res.val) ρ3 Q E) E
    | _ => False) E
  | .lcp tg it ifs elt vs, ρ, Q, E => wpI it ρ (fun g ds ρ1 => noOwn ρ1 vs ∧ (∀ i, g = some i → i ∉ vs) ∧ (∀ i ∈ tg.slots, i ∈ vs) ∧
      turns g ds (lcF tg vs (wpF ifs) (wp elt)) ds (wipeE ρ1 vs) [] fun acc ρ7 => Q (.own (.lst acc)) (backE ρ1 ρ7 vs)) E
  | .lc2 tg it ifs tg2 it2 ifs2 elt vs vs1, ρ, Q, E => wpI it ρ (fun g ds ρ1 => noOwn ρ1 vs ∧ (∀ i, g = some i → i ∉ vs) ∧ (∀ i ∈ tg.slots, i ∈ vs) ∧
      turnsC g ds (dcF tg vs (wpF ifs) (bdInn tg2 vs vs1 (wpI it2) (wpF ifs2) (bdApp (wp elt)))) ds (wipeE ρ1 vs) (.lst []) fun c ρ7 => Q (.own c) (backE ρ1 ρ7 vs)) E
  | .dcp t tg it ifs k v vs, ρ, Q, E => wpI it ρ (fun g ds ρ1 => noOwn ρ1 vs ∧ (∀ i, g = some i → i ∉ vs) ∧ (∀ i ∈ tg.slots, i ∈ vs) ∧
      turnsC g ds (dcF tg vs (wpF ifs) (bdPut (wp k) (wp v))) ds (wipeE ρ1 vs) (nilC t) fun c ρ7 => Q (.own c) (backE ρ1 ρ7 vs)) E
  | .dc2 t tg it ifs tg2 it2 ifs2 k v vs vs1, ρ, Q, E => wpI it ρ (fun g ds ρ1 => noOwn ρ1 vs ∧ (∀ i, g = some i → i ∉ vs) ∧ (∀ i ∈ tg.slots, i ∈ vs) ∧
      turnsC g ds (dcF tg vs (wpF ifs) (bdInn tg2 vs vs1 (wpI it2) (wpF ifs2) (bdPut (wp k) (wp v)))) ds (wipeE ρ1 vs) (nilC t) fun c ρ7 => Q (.own c) (backE ρ1 ρ7 vs)) E
  | .drw e i, ρ, Q, E => wp e ρ (fun r ρ1 => match r with
    | .own (.lst gs) => (∃ ns : List Int, gs = ns.map D.int ∧ ns.length ≤ 63 ∧ ∀ n ∈ ns, 0 < n) ∧ match ρ1[i]? with
      | some (.own (.lst cs)) => (∃ ns : List Int, cs = ns.map D.int ∧ ns.length ≤ 63) ∧ Q (.own .draw) (ρ1.set i .non)
      | _ => False
    | _ => False) E
  | .dnu k c f a, ρ, Q, E => wp a ρ (fun r ρ1 => opdR r ρ1 fun x ρ2 => match rdR ρ2 x with
    | .obj c2 _ => c2 = c ∧ callW Γ f [x] ρ2 (fun z ρ3 => dunR k z fun z2 => Q z2 ρ3) E
    | _ => False) E
  | .dnb k c f a b, ρ, Q, E => wp a ρ (fun r ρ1 => opdR r ρ1 fun x ρ2 => wp b ρ2 (fun r ρ3 => opdR r ρ3 fun y ρ4 => match rdR ρ4 (dunS k x y) with
    | .obj c2 _ => (c2 = c ∧ dunO k c (rdR ρ4 y)) ∧ callW Γ f (dunA k x y) ρ4 (fun z ρ5 => dunR k z fun z2 => Q z2 ρ5) E
    | _ => False) E) E
/-- arguments, from the left -/
def wpL : List IE → Env → (List Res → Env → Prop) → (Xc → Env → Prop) → Prop
  | [], ρ, Q, _ => Q [] ρ
  | e :: es, ρ, Q, E => wp e ρ (fun r ρ1 => opdR r ρ1 fun x ρ2 => wpL es ρ2 (fun rs ρ3 => Q (x :: rs) ρ3) E) E
/-- .. each frozen -/
def wpZ : List IE → Env → (List D → Env → Prop) → (Xc → Env → Prop) → Prop
  | [], ρ, Q, _ => Q [] ρ
  | e :: es, ρ, Q, E => wp e ρ (fun r ρ1 => frzR r ρ1 fun x ρ2 => wpZ es ρ2 (fun ds ρ3 => Q (rdR ρ2 x :: ds) ρ3) E) E
/-- a bound of a slice -/
def wpO : Option IE → Env → (Option Int → Env → Prop) → (Xc → Env → Prop) → Prop
  | none, ρ, Q, _ => Q none ρ
  | some e, ρ, Q, E => wp e ρ (fun r ρ1 => opdR r ρ1 fun x ρ2 => match rdR ρ2 x with
    | .int i => Q (some i) ρ2
    | _ => False) E
/-- a comprehension's test -/
def wpF : Option IE → Env → (Bool → Env → Prop) → Prop
  | none, ρ, Q => Q true ρ
  | some e, ρ, Q => wp e ρ (fun r ρ1 => opdR r ρ1 fun x ρ2 => truW (rdR ρ2 x) fun b => Q b ρ2) fun _ _ => False
/-- what is walked -/
def wpI : II → Env → (Option Nat → List D → Env → Prop) → (Xc → Env → Prop) → Prop
  | .it e, ρ, Q, E => wp e ρ (fun r ρ1 => opdR r ρ1 fun x ρ2 => match x with
    | .slot i => match ρ2[i]? with
      | some (.own (.lst ds)) => Q (some i) ds ρ2
      | _ => False
    | x => match D.items (rdR ρ2 x) with
      | some ds => Q none ds ρ2
      | none => False) E
  | .rng e, ρ, Q, E => wp e ρ (fun r ρ1 => opdR r ρ1 fun x ρ2 => match rdR ρ2 x with
    | .int n => (-(2 ^ 62) ≤ n ∧ n ≤ big) ∧ Q none (rngG 0 n.toNat) ρ2
    | _ => False) E
  | .rng2 a b, ρ, Q, E => wp a ρ (fun r ρ1 => opdR r ρ1 fun x ρ2 => wp b ρ2 (fun r ρ3 => opdR r ρ3 fun y ρ4 => match rdR ρ4 x, rdR ρ4 y with
    | .int lo, .int hi => (-(2 ^ 62) ≤ lo ∧ lo < 2 ^ 62 ∧ -(2 ^ 62) ≤ hi ∧ hi < 2 ^ 62 ∧ hi - lo ≤ big) ∧ Q none (rngG lo (hi - lo).toNat) ρ4
    | _, _ => False) E) E
  | .enum e, ρ, Q, E => wp e ρ (fun r ρ1 => opdR r ρ1 fun x ρ2 => match x with
    | .val (.lst ds) => Q none (enumG 0 ds) ρ2
    | _ => False) E
  | .zip a b, ρ, Q, E => wp a ρ (fun r ρ1 => opdR r ρ1 fun x ρ2 => wp b ρ2 (fun r ρ3 => opdR r ρ3 fun y ρ4 => match x, y with
    | .val (.tup xs), .val (.tup ys) => Q none (zipG xs ys) ρ4
    | .val (.ftp xs), .val (.tup ys) => Q none (zipG xs ys) ρ4
    | .val (.lst xs), .val (.lst ys) => Q none (zipG xs ys) ρ4
    | _, _ => False) E) E
  | .items e, ρ, Q, E => wp e ρ (fun r ρ1 => opdR r ρ1 fun x ρ2 => match x with
    | .val (.dK kvs) => Q none (kvs.map fun kv => .tup [kD kv.1, kv.2]) ρ2
    | .val (.dT kvs) => Q none (kvs.map fun kv => .tup [.tup (kv.1.map kD), kv.2]) ρ2
    | _ => False) E
end
mutual
/-- the slots that a statement stores into -/
def asgS : IS → List Nat
  | .asg tg _ => tg.slots
  | .par ns _ => ns
  | .aug i _ _ => [i]
  | .ite _ a b => asgSs a ++ asgSs b
  | .for tg _ b => tg.slots ++ asgSs b
  | .whl _ b => asgSs b
  | .tryA b _ i h => i :: (asgSs b ++ asgSs h)
  | _ => []
def asgSs : List IS → List Nat
  | [] => []
  | s :: r => asgS s ++ asgSs r
end
/-! ### statements -/
structure Ks where
  nx : Env → Prop
  rt : Res → Env → Prop
  bk : Env → Prop
  ct : Env → Prop
  ex : Xc → Env → Prop
/-- into a slot: a fresh thing is owned, another name's thing is frozen -/
def slotW (r : Res) (ρ : Env) (Q : Slot → Env → Prop) : Prop := match r with
  | .val d => Q (.val d) ρ
  | .own c => Q (.own c) ρ
  | .slot i => match ρ[i]? with
    | some (.own c) => c.fz = true ∧ Q (.val c.d) (ρ.set i (.val c.d))
    | _ => False
/-- handed back: what the name owns goes out -/
def retW (r : Res) (ρ : Env) (Q : Res → Env → Prop) : Prop := match r with
  | .val d => Q (.val d) ρ
  | .own c => Q (.own c) ρ
  | .slot i => match ρ[i]? with
    | some (.own c) => Q (.own c) (ρ.set i .non)
    | _ => False
def setN : List Nat → List Slot → Env → Option Env
  | [], [], ρ => some ρ
  | i :: ns, s :: ss, ρ => if i < ρ.length then setN ns ss (ρ.set i s) else none
  | _, _, _ => none
def wpP : List IE → Env → (List Slot → Env → Prop) → (Xc → Env → Prop) → Prop
  | [], ρ, Q, _ => Q [] ρ
  | e :: es, ρ, Q, E => wp Γ e ρ (fun r ρ1 => slotW r ρ1 fun s ρ2 => wpP es ρ2 (fun ss ρ3 => Q (s :: ss) ρ3) E) E
def forL (g : Option Nat) (all : List D) (bd : D → Env → Option Env) (body : Env → Ks → Prop) (K : Ks) : List D → Env → Prop
  | [], ρ => K.nx ρ
  | x :: xs, ρ => match bd x ρ with
    | some ρ1 => body ρ1 { K with nx := fun ρ2 => Guard g all ρ2 ∧ forL g all bd body K xs ρ2, ct := fun ρ2 => Guard g all ρ2 ∧ forL g all bd body K xs ρ2, bk := K.nx }
    | none => False
def whlN (c : Env → (Bool → Env → Prop) → Prop) (body : Env → Ks → Prop) (K : Ks) : Nat → Env → Prop
  | 0, _ => False
  | n + 1, ρ => c ρ fun b ρ1 => if b = true then body ρ1 { K with nx := whlN c body K n, ct := whlN c body K n, bk := K.nx } else K.nx ρ1
def putC (c : Cell) (k v : D) (Q : Cell → Prop) : Prop := match c with
  | .lst xs => match k with
    | .int i => match ixG xs.length i with
      | some j => Q (.lst (xs.set j v))
      | none => False
    | _ => False
  | c => putD c k v Q
mutual
def wpS : IS → Env → Ks → Prop
  | .exp e, ρ, K => wp Γ e ρ (fun r ρ1 => opdR r ρ1 fun _ ρ2 => K.nx ρ2) K.ex
  | .asg (.name i) e, ρ, K => wp Γ e ρ (fun r ρ1 => slotW r ρ1 fun s ρ2 => i < ρ2.length ∧ K.nx (ρ2.set i s)) K.ex
  | .asg tg e, ρ, K => wp Γ e ρ (fun r ρ1 => frzR r ρ1 fun x ρ2 => match bindT tg (rdR ρ2 x) ρ2 with
    | some ρ3 => K.nx ρ3
    | none => False) K.ex
  | .par ns es, ρ, K => wpP Γ es ρ (fun ss ρ1 => match setN ns ss ρ1 with
    | some ρ2 => K.nx ρ2
    | none => False) K.ex
  | .aug i op e, ρ, K => match ρ[i]? with
    | some (.val d) => d.flat = true ∧ wp Γ e ρ (fun r ρ1 => opdR r ρ1 fun x ρ2 => binW op d (rdR ρ2 x) fun z => match z with
      | .val d2 => i < ρ2.length ∧ K.nx (ρ2.set i (.val d2))
      | _ => False) K.ex
    | _ => False
  | .ret e, ρ, K => wp Γ e ρ (fun r ρ1 => retW r ρ1 K.rt) K.ex
  | .retN, ρ, K => K.rt (.val .non) ρ
  | .ite c a b, ρ, K => wp Γ c ρ (fun r ρ1 => opdR r ρ1 fun x ρ2 => truW (rdR ρ2 x) fun k => if k = true then wpSs a ρ2 K else wpSs b ρ2 K) K.ex
  | .for tg it b, ρ, K => wpI Γ it ρ (fun g ds ρ1 => (∀ i, g = some i → i ∉ tg.slots ++ asgSs b) ∧ forL g ds (bindT tg) (wpSs b) K ds ρ1) K.ex
  | .whl c b, ρ, K => ∃ n, whlN (fun ρ Q => wp Γ c ρ (fun r ρ1 => opdR r ρ1 fun x ρ2 => truW (rdR ρ2 x) fun k => Q k ρ2) K.ex) (wpSs b) K n ρ
  | .rse c fn es, ρ, K => wpL Γ es ρ (fun rs ρ1 => fn.length = rs.length ∧ K.ex ⟨c, fn.zip (rs.map (rdR ρ1))⟩ ρ1) K.ex
  | .pas, ρ, K => K.nx ρ
  | .nev, _, _ => False
  | .brk, ρ, K => K.bk ρ
  | .cnt, ρ, K => K.ct ρ
  | .sti i k v, ρ, K => wp Γ v ρ (fun r ρ1 => frzR r ρ1 fun y ρ2 => match ρ2[i]? with
    | some (.own _) => wp Γ k ρ2 (fun r ρ3 => frzR r ρ3 fun x ρ4 => match ρ4[i]? with
      | some (.own c) => putC c (rdR ρ4 x) (rdR ρ4 y) fun c1 => K.nx (ρ4.set i (.own c1))
      | _ => False) K.ex
    | _ => False) K.ex
  | .sta i c f v, ρ, K => wp Γ v ρ (fun r ρ1 => frzR r ρ1 fun y ρ2 => match ρ2[i]? with
    | some (.own (.obj c2 fs)) => (c2 = c ∧ fs.length < 900 ∧ (fs.map (·.1)).Nodup) ∧ K.nx (ρ2.set i (.own (.obj c (putG fs f (rdR ρ2 y)))))
    | _ => False) K.ex
  | .tryA b c i h, ρ, K => wpSs b ρ { K with ex := fun x ρ1 => if x.c = c then wpSs h (ρ1.set i (.val (.exc x.c x.fs))) { K with nx := fun ρ2 => K.nx (ρ2.set i .non) } else K.ex x ρ1 }
def wpSs : List IS → Env → Ks → Prop
  | [], ρ, K => K.nx ρ
  | s :: r, ρ, K => wpS s ρ { K with nx := fun ρ1 => wpSs r ρ1 K }
end
end
def Slot.isOwn : Slot → Bool
  | .own _ => true
  | _ => false
def ioOk : Nat → List Nat → List Slot → Bool
  | _, _, [] => true
  | i, l, s :: ss => (!s.isOwn || !l.contains i) && ioOk (i + 1) l ss
section
variable (Γ : Nat → FS)
/-- a def's body: its parameters, then empty slots -/
def startE (n : Nat) (ss : List Slot) : Env := ss ++ List.replicate (n - ss.length) .non
/-- what the caller sees of the parameters: those that the body stores into are gone -/
def outE (l : List Nat) (m : Nat) (ρ : Env) : Env := wipeE (ρ.take m) l
def runD (n : Nat) (body : List IS) : FS := fun ss Q E => (ioOk 0 (asgSs body) ss = true ∧ ss.length ≤ n) ∧
  wpSs Γ body (startE n ss) { nx := fun ρ => Q (.val .non) (outE (asgSs body) ss.length ρ), rt := fun r ρ => Q r (outE (asgSs body) ss.length ρ), bk := fun _ => False, ct := fun _ => False, ex := fun x ρ => E x (outE (asgSs body) ss.length ρ) }
end
end Mi
namespace Mi
open PySem PySem.Spec PyProof.Rows L2
/-- a tuple: frozen, or the written empty one -/
def TupAt (K : PySem.W.Frag) (G : Hp) (a : Addr) (vs : List V) : Prop := G a = some (.tup vs) ∨ (vs = [] ∧ SqT K G a vs)
theorem TupAt.sq {K : PySem.W.Frag} {G : Hp} {a : Addr} {vs : List V} (h : TupAt K G a vs) : SqT K G a vs := by
  rcases h with h | h
  · exact SqT.of h
  · exact h.2
/-- the text: its written part, its classes -/
structure Tx where
  K : PySem.W.Frag
  cl : Nat → Addr
  na : Nat → List Str
  cs : List Nat
/-- a class with plain attributes -/
structure ObOk (T : Tx) (c : Nat) : Prop where
  cl : L2.Cls T.K (T.cl c)
  na : ∀ f ∈ T.na c, NoAttr T.K (T.cl c) f
  mem : c ∈ T.cs
  ha : PySem.W.findIn T.K (.ref (T.cl c)) "__class__" = some (some (.builtin "object.__class__"))
  hn : PySem.W.specialIn T.K (.builtin "object.__class__") "__get__" = some (some (.builtin "getset_descriptor.__get__"))
  htk : PySem.W.takesIn T.K (.builtin "object.__class__") = some true
  hm : PySem.W.mroIn T.K (T.cl c) (.type "object") = some true
/-- .. and these fields -/
def ObF (T : Tx) (c : Nat) (fs : List (Str × D)) : Prop := ObOk T c ∧ ∀ p ∈ fs, p.1 ∈ T.na c
mutual
/-- the data d stand in G as v -/
def Dp (T : Tx) (G : Hp) : D → V → Prop
  | .bot, _ => True
  | .non, v => v = .non
  | .bl b, v => v = .bl b
  | .int i, v => v = .int i
  | .str x, v => v = .str x ∧ okS x = true
  | .tup ds, v => ∃ a vs, v = .ref a ∧ TupAt T.K G a vs ∧ Dps T G ds vs
  | .ftp ds, v => ∃ a o vs, v = .ref a ∧ (G a = some (.frz o (.tup vs)) ∧ o.dict = none) ∧ Dps T G ds vs
  | .lst ds, v => ∃ a vs, v = .ref a ∧ SqL T.K G a vs ∧ Dps T G ds vs
  | .dK kvs, v => ∃ a o ws, v = .ref a ∧ G a = some (.frz o (.dK ws)) ∧ DpK T G kvs ws
  | .dT kvs, v => ∃ a o ws, v = .ref a ∧ G a = some (.frz o (.dT ws)) ∧ DpT T G kvs ws
  | .obj c fs, v => ∃ a dx ws, v = .ref a ∧ G a = some (.ins (T.cl c) dx ws) ∧ ObF T c fs ∧ DpF T G fs ws
  | .exc _ _, _ => False
def Dps (T : Tx) (G : Hp) : List D → List V → Prop
  | [], vs => vs = []
  | d :: ds, vs => ∃ v vr, vs = v :: vr ∧ Dp T G d v ∧ Dps T G ds vr
def DpK (T : Tx) (G : Hp) : List (Ky × D) → List (Key × V) → Prop
  | [], vs => vs = []
  | (k, d) :: ds, vs => ∃ v vr, vs = (k, v) :: vr ∧ (okK k = true ∧ Dp T G d v) ∧ DpK T G ds vr
def DpT (T : Tx) (G : Hp) : List (List Ky × D) → List (List Key × V) → Prop
  | [], vs => vs = []
  | (k, d) :: ds, vs => ∃ v vr, vs = (k, v) :: vr ∧ (k.all okK = true ∧ Dp T G d v) ∧ DpT T G ds vr
def DpF (T : Tx) (G : Hp) : List (Str × D) → List (Str × V) → Prop
  | [], vs => vs = []
  | (k, d) :: ds, vs => ∃ v vr, vs = (k, v) :: vr ∧ Dp T G d v ∧ DpF T G ds vr
end
/-! ### growing -/
theorem sqT_mono {K : PySem.W.Frag} {H H' : Hp} {a : Addr} {xs : List V} (e : Same H H') (h : SqT K H a xs) : SqT K H' a xs := by
  rcases h with (h | ⟨o, h⟩) | h
  · exact .inl (.inl (e _ _ h))
  · exact .inl (.inr ⟨o, e _ _ h⟩)
  · exact .inr h
theorem tupAt_mono {K : PySem.W.Frag} {H H' : Hp} {a : Addr} {xs : List V} (e : Same H H') (h : TupAt K H a xs) : TupAt K H' a xs := by
  rcases h with h | h
  · exact .inl (e _ _ h)
  · exact .inr ⟨h.1, sqT_mono e h.2⟩
theorem rd_mono {H H' : Hp} {a : Addr} {u : HO} (e : Same H H') (h : Rd H a u) : Rd H' a u := by
  rcases h with h | ⟨o, h⟩
  · exact .inl (e _ _ h)
  · exact .inr ⟨o, e _ _ h⟩
theorem sqL_mono {K : PySem.W.Frag} {H H' : Hp} {a : Addr} {xs : List V} (e : Same H H') (h : SqL K H a xs) : SqL K H' a xs := by
  rcases h with (h | ⟨o, h⟩) | h
  · exact .inl (.inl (e _ _ h))
  · exact .inl (.inr ⟨o, e _ _ h⟩)
  · exact .inr h
section
variable {T : Tx} {G G' : Hp}
mutual
theorem Dp.mono (e : Same G G') : ∀ (d : D) {v : V}, Dp T G d v → Dp T G' d v
  | .bot, _, h => h
  | .non, _, h => h
  | .bl _, _, h => h
  | .int _, _, h => h
  | .str _, _, h => h
  | .tup ds, _, ⟨a, vs, h1, h2, h3⟩ => ⟨a, vs, h1, tupAt_mono e h2, Dps.mono e ds h3⟩
  | .ftp ds, _, ⟨a, o, vs, h1, h2, h3⟩ => ⟨a, o, vs, h1, ⟨e _ _ h2.1, h2.2⟩, Dps.mono e ds h3⟩
  | .lst ds, _, ⟨a, vs, h1, h2, h3⟩ => ⟨a, vs, h1, sqL_mono e h2, Dps.mono e ds h3⟩
  | .dK kvs, _, ⟨a, o, ws, h1, h2, h3⟩ => ⟨a, o, ws, h1, e _ _ h2, DpK.mono e kvs h3⟩
  | .dT kvs, _, ⟨a, o, ws, h1, h2, h3⟩ => ⟨a, o, ws, h1, e _ _ h2, DpT.mono e kvs h3⟩
  | .obj _ fs, _, ⟨a, dx, ws, h1, h2, h0, h3⟩ => ⟨a, dx, ws, h1, e _ _ h2, h0, DpF.mono e fs h3⟩
  | .exc _ _, _, h => h
theorem Dps.mono (e : Same G G') : ∀ (ds : List D) {vs : List V}, Dps T G ds vs → Dps T G' ds vs
  | [], _, h => h
  | d :: ds, _, ⟨v, vr, h1, h2, h3⟩ => ⟨v, vr, h1, Dp.mono e d h2, Dps.mono e ds h3⟩
theorem DpK.mono (e : Same G G') : ∀ (ds : List (Ky × D)) {vs : List (Key × V)}, DpK T G ds vs → DpK T G' ds vs
  | [], _, h => h
  | (_, d) :: ds, _, ⟨v, vr, h1, h2, h3⟩ => ⟨v, vr, h1, ⟨h2.1, Dp.mono e d h2.2⟩, DpK.mono e ds h3⟩
theorem DpT.mono (e : Same G G') : ∀ (ds : List (List Ky × D)) {vs : List (List Key × V)}, DpT T G ds vs → DpT T G' ds vs
  | [], _, h => h
  | (_, d) :: ds, _, ⟨v, vr, h1, h2, h3⟩ => ⟨v, vr, h1, ⟨h2.1, Dp.mono e d h2.2⟩, DpT.mono e ds h3⟩
theorem DpF.mono (e : Same G G') : ∀ (ds : List (Str × D)) {vs : List (Str × V)}, DpF T G ds vs → DpF T G' ds vs
  | [], _, h => h
  | (_, d) :: ds, _, ⟨v, vr, h1, h2, h3⟩ => ⟨v, vr, h1, Dp.mono e d h2, DpF.mono e ds h3⟩
end
theorem Dps.len : ∀ {ds : List D} {vs : List V}, Dps T G ds vs → vs.length = ds.length
  | [], _, h => by cases h; rfl
  | _ :: ds, _, ⟨_, _, h1, _, h3⟩ => by subst h1; simp [Dps.len h3]
theorem Dps.get : ∀ {ds : List D} {vs : List V} {i : Nat} {d : D}, Dps T G ds vs → ds[i]? = some d → ∃ v, vs[i]? = some v ∧ Dp T G d v
  | [], _, _, _, _, e => by simp at e
  | _ :: ds, _, 0, _, ⟨v, _, h1, h2, h3⟩, e => by simp at e; subst e h1; exact ⟨v, rfl, h2⟩
  | _ :: ds, _, i + 1, d, ⟨_, vr, h1, _, h3⟩, e => by
    subst h1
    obtain ⟨v, q1, q2⟩ := Dps.get (i := i) (d := d) h3 (by simpa using e)
    exact ⟨v, by simpa using q1, q2⟩
theorem Dps.append : ∀ {ds es : List D} {vs ws : List V}, Dps T G ds vs → Dps T G es ws → Dps T G (ds ++ es) (vs ++ ws)
  | [], _, _, _, h, q => by cases h; exact q
  | d :: ds, es, _, ws, ⟨v, vr, h1, h2, h3⟩, q => by subst h1; exact ⟨v, vr ++ ws, rfl, h2, Dps.append h3 q⟩
theorem Dps.one {d : D} {v : V} (h : Dp T G d v) : Dps T G [d] [v] := ⟨v, [], rfl, h, rfl⟩
theorem Dps.take : ∀ {ds : List D} {vs : List V} (n : Nat), Dps T G ds vs → Dps T G (ds.take n) (vs.take n)
  | [], _, _, h => by cases h; simp [Dps]
  | _ :: _, _, 0, _ => by simp [Dps]
  | d :: ds, _, n + 1, ⟨v, vr, h1, h2, h3⟩ => by subst h1; exact ⟨v, vr.take n, rfl, h2, Dps.take n h3⟩
theorem Dps.drop : ∀ {ds : List D} {vs : List V} (n : Nat), Dps T G ds vs → Dps T G (ds.drop n) (vs.drop n)
  | [], _, _, h => by cases h; simp [Dps]
  | _ :: _, _, 0, h => h
  | d :: ds, _, n + 1, ⟨v, vr, h1, h2, h3⟩ => by subst h1; exact Dps.drop n h3
theorem Dps.set : ∀ {ds : List D} {vs : List V} (n : Nat) {d : D} {v : V}, Dps T G ds vs → Dp T G d v → Dps T G (ds.set n d) (vs.set n v)
  | [], _, _, _, _, h, _ => by cases h; simp [Dps]
  | _ :: _, _, 0, d, v, ⟨_, vr, h1, _, h3⟩, q => by subst h1; exact ⟨v, vr, rfl, q, h3⟩
  | e :: ds, _, n + 1, d, v, ⟨w, vr, h1, h2, h3⟩, q => by subst h1; exact ⟨w, vr.set n v, rfl, h2, Dps.set n h3 q⟩
theorem Dps.reverse {ds : List D} : ∀ {vs : List V}, Dps T G ds vs → Dps T G ds.reverse vs.reverse := by
  induction ds with
  | nil => intro vs h; cases h; simp [Dps]
  | cons d ds ih =>
    rintro _ ⟨v, vr, rfl, h2, h3⟩
    simp only [List.reverse_cons]
    exact (ih h3).append (Dps.one h2)
end
/-! ### cells -/
/-- the draw's dict at p: its list of great numbers, its cells -/
def DrawAt (H : Hp) (p : Addr) : Prop := ∃ (q c : Addr) (gs cs : List Int) (rest turn more : Int),
  H p = some (.dK [(Sum.inr "great", .ref q), (Sum.inr "cells", .ref c), (Sum.inr "rest", .int rest), (Sum.inr "turn", .int turn), (Sum.inr "more", .int more)]) ∧
  H q = some (.lst (gs.map V.int)) ∧ H c = some (.lst (cs.map V.int)) ∧ p ≠ q ∧ p ≠ c ∧ q ≠ c ∧
  gs.length ≤ 63 ∧ (∀ g ∈ gs, 0 < g) ∧ cs.length ≤ 63 ∧ 0 ≤ rest ∧ 0 ≤ turn ∧ (0 ≤ more ∧ more < 2147483647)
def CellAt (T : Tx) (H G : Hp) (a : Addr) : Cell → Prop
  | .lst ds => ∃ vs, H a = some (.lst vs) ∧ Dps T G ds vs
  | .dK kvs => ∃ ws, H a = some (.dK ws) ∧ DpK T G kvs ws
  | .dT kvs => ∃ ws, H a = some (.dT ws) ∧ DpT T G kvs ws
  | .obj c fs => ∃ dx ws, H a = some (.ins (T.cl c) dx ws) ∧ ObF T c fs ∧ DpF T G fs ws
  | .draw => DrawAt H a
/-- the addresses that a cell owns -/
def Fp (H : Hp) (a : Addr) : Cell → Addr → Prop
  | .draw, b => b = a ∨ ∃ kvs k, H a = some (.dK kvs) ∧ (k, V.ref b) ∈ kvs
  | _, b => b = a
theorem Fp.self {H : Hp} {a : Addr} (c : Cell) : Fp H a c a := by cases c <;> first | rfl | exact .inl rfl
theorem CellAt.mono {T : Tx} {H G G' : Hp} {a : Addr} {c : Cell} (e : Same G G') (h : CellAt T H G a c) : CellAt T H G' a c := by
  cases c with
  | lst ds => obtain ⟨vs, h1, h2⟩ := h; exact ⟨vs, h1, h2.mono e⟩
  | dK ds => obtain ⟨vs, h1, h2⟩ := h; exact ⟨vs, h1, h2.mono e⟩
  | dT ds => obtain ⟨vs, h1, h2⟩ := h; exact ⟨vs, h1, h2.mono e⟩
  | obj c ds => obtain ⟨dx, vs, h1, h0, h2⟩ := h; exact ⟨dx, vs, h1, h0, h2.mono e⟩
  | draw => exact h
/-- a cell leans on its own addresses alone -/
theorem CellAt.keep {T : Tx} {H H' G : Hp} {a : Addr} {c : Cell} (h : CellAt T H G a c) (k : ∀ b o, Fp H a c b → H b = some o → H' b = some o) : CellAt T H' G a c := by
  cases c with
  | lst ds => obtain ⟨vs, h1, h2⟩ := h; exact ⟨vs, k _ _ rfl h1, h2⟩
  | dK ds => obtain ⟨vs, h1, h2⟩ := h; exact ⟨vs, k _ _ rfl h1, h2⟩
  | dT ds => obtain ⟨vs, h1, h2⟩ := h; exact ⟨vs, k _ _ rfl h1, h2⟩
  | obj c ds => obtain ⟨dx, vs, h1, h2⟩ := h; exact ⟨dx, vs, k _ _ rfl h1, h2⟩
  | draw =>
    obtain ⟨q, c, gs, cs, r, t, m, h1, h2, h3, rest⟩ := h
    exact ⟨q, c, gs, cs, r, t, m, k _ _ (.inl rfl) h1, k _ _ (.inr ⟨_, Sum.inr "great", h1, by simp⟩) h2, k _ _ (.inr ⟨_, Sum.inr "cells", h1, by simp⟩) h3, rest⟩
theorem Fp.there {T : Tx} {H G : Hp} {a b : Addr} {c : Cell} (h : CellAt T H G a c) (f : Fp H a c b) : ∃ o, H b = some o ∧ ∀ xs, o ≠ .tup xs := by
  cases c with
  | lst ds => obtain ⟨vs, h1, h2⟩ := h; cases f; exact ⟨_, h1, fun _ z => by cases z⟩
  | dK ds => obtain ⟨vs, h1, h2⟩ := h; cases f; exact ⟨_, h1, fun _ z => by cases z⟩
  | dT ds => obtain ⟨vs, h1, h2⟩ := h; cases f; exact ⟨_, h1, fun _ z => by cases z⟩
  | obj c ds => obtain ⟨dx, vs, h1, h2⟩ := h; cases f; exact ⟨_, h1, fun _ z => by cases z⟩
  | draw =>
    obtain ⟨q, c, gs, cs, r, t, m, h1, h2, h3, rest⟩ := h
    rcases f with f | ⟨kvs, k, e, hm⟩
    · subst f; exact ⟨_, h1, fun _ z => by cases z⟩
    · rw [h1] at e
      cases e
      simp at hm
      rcases hm with ⟨_, hm⟩ | ⟨_, hm⟩ <;> (subst hm; first | exact ⟨_, h2, fun _ z => by cases z⟩ | exact ⟨_, h3, fun _ z => by cases z⟩)
theorem Fp.keep {H H' : Hp} {a b : Addr} {c : Cell} (k : ∀ o, H a = some o → H' a = some o) (hs : ∃ o, H a = some o) (f : Fp H' a c b) : Fp H a c b := by
  cases c with
  | draw =>
    rcases f with f | ⟨kvs, q, e, hm⟩
    · exact .inl f
    · obtain ⟨o, ho⟩ := hs
      rw [k o ho] at e
      cases e
      exact .inr ⟨kvs, q, ho, hm⟩
  | _ => exact f
/-! ### frames -/
structure Rep (T : Tx) (ρ : Env) (σ : L2.St) (G H : Hp) : Prop where
  len : ρ.length = σ.length
  sub : Same G H
  val : ∀ (i : Nat) (d : D), ρ[i]? = some (.val d) → ∃ v, σ[i]? = some (some v) ∧ Dp T G d v
  own : ∀ (i : Nat) (c : Cell), ρ[i]? = some (.own c) → ∃ a, σ[i]? = some (some (.ref a)) ∧ CellAt T H G a c
  sep : ∀ (i : Nat) (c : Cell) (a b : Addr), ρ[i]? = some (.own c) → σ[i]? = some (some (.ref a)) → Fp H a c b → G b = none
  dis : ∀ (i j : Nat) (c e : Cell) (a a' b : Addr), ρ[i]? = some (.own c) → ρ[j]? = some (.own e) → σ[i]? = some (some (.ref a)) → σ[j]? = some (some (.ref a')) → Fp H a c b → Fp H a' e b → i = j
def FpE (ρ : Env) (σ : L2.St) (H : Hp) (b : Addr) : Prop := ∃ (i : Nat) (c : Cell) (a : Addr), ρ[i]? = some (.own c) ∧ σ[i]? = some (some (.ref a)) ∧ Fp H a c b
/-- new, or a tuple: what may be frozen -/
def Fre (H : Hp) (b : Addr) : Prop := H b = none ∨ ∃ xs, H b = some (.tup xs)
/-- from one heap to a later one: what was frozen stays, what is frozen newly was new or ours, what isn't ours stays -/
structure Step (P P' : Addr → Prop) (G H G' H' : Hp) : Prop where
  gs : Same G G'
  gn : ∀ b, G b = none → G' b ≠ none → P b ∨ Fre H b
  fr : ∀ b o, H b = some o → ¬ P b → H' b = some o
  fp : ∀ b, P' b → P b ∨ H b = none
theorem Step.refl {P P' : Addr → Prop} {G H : Hp} (h : ∀ b, P' b → P b) : Step P P' G H G H := ⟨Same.refl _, fun b e n => absurd e n, fun _ _ e _ => e, fun b h' => .inl (h b h')⟩
theorem Step.trans {P P1 P2 : Addr → Prop} {G H G1 H1 G2 H2 : Hp} (a : Step P P1 G H G1 H1) (b : Step P1 P2 G1 H1 G2 H2) : Step P P2 G H G2 H2 := by
  have hn : ∀ c, H1 c = none → P c ∨ H c = none := fun c e => by
    cases q : H c with
    | none => exact .inr rfl
    | some o =>
      by_cases hp : P c
      · exact .inl hp
      · rw [a.fr c o q hp] at e; cases e
  have hf : ∀ c, Fre H1 c → P c ∨ Fre H c := fun c e => by
    rcases e with e | ⟨xs, e⟩
    · rcases hn c e with h | h
      · exact .inl h
      · exact .inr (.inl h)
    · cases q : H c with
      | none => exact .inr (.inl q)
      | some o =>
        by_cases hp : P c
        · exact .inl hp
        · rw [a.fr c o q hp] at e; exact .inr (.inr ⟨xs, by rw [q]; exact e⟩)
  refine ⟨a.gs.trans b.gs, fun c e n => ?_, fun c o e n => ?_, fun c h => ?_⟩
  · by_cases h1 : G1 c = none
    · rcases b.gn c h1 n with h | h
      · rcases a.fp c h with h | h
        · exact .inl h
        · exact .inr (.inl h)
      · exact hf c h
    · exact a.gn c e h1
  · refine b.fr c o (a.fr c o e n) fun h => ?_
    rcases a.fp c h with h | h
    · exact n h
    · rw [h] at e; cases e
  · rcases b.fp c h with h | h
    · exact a.fp c h
    · exact hn c h
theorem Step.weak {P P' Q' : Addr → Prop} {G H G' H' : Hp} (a : Step P P' G H G' H') (h : ∀ b, Q' b → P' b) : Step P Q' G H G' H' := ⟨a.gs, a.gn, a.fr, fun b q => a.fp b (h b q)⟩
end Mi
namespace Mi
open PySem PySem.Spec PyProof.Rows L2
/-! ### frames, rearranged -/
section
variable {T : Tx} {ρ ρ' : Env} {σ σ' : L2.St} {G G' H H' : Hp}
theorem Rep.re (R : Rep T ρ σ G H) (hl : ρ'.length = σ'.length) (hv : ∀ (i : Nat) (d : D), ρ'[i]? = some (.val d) → ∃ v, σ'[i]? = some (some v) ∧ Dp T G d v) (f : Nat → Nat)
    (ho : ∀ (i : Nat) (c : Cell), ρ'[i]? = some (.own c) → ρ[f i]? = some (.own c) ∧ σ'[i]? = σ[f i]?) (hi : ∀ (i j : Nat) (c e : Cell), ρ'[i]? = some (.own c) → ρ'[j]? = some (.own e) → f i = f j → i = j) :
    Rep T ρ' σ' G H where
  len := hl
  sub := R.sub
  val := hv
  own := fun i c e => by
    obtain ⟨h1, h2⟩ := ho i c e
    rw [h2]
    exact R.own _ c h1
  sep := fun i c a b e s f' => by
    obtain ⟨h1, h2⟩ := ho i c e
    rw [h2] at s
    exact R.sep _ c a b h1 s f'
  dis := fun i j c e a a' b h1 h2 s1 s2 f1 f2 => by
    obtain ⟨p1, q1⟩ := ho i c h1
    obtain ⟨p2, q2⟩ := ho j e h2
    rw [q1] at s1
    rw [q2] at s2
    exact hi i j c e h1 h2 (R.dis _ _ c e a a' b p1 p2 s1 s2 f1 f2)
theorem FpE.re (f : Nat → Nat) (ho : ∀ (i : Nat) (c : Cell), ρ'[i]? = some (.own c) → ρ[f i]? = some (.own c) ∧ σ'[i]? = σ[f i]?) {b : Addr} (h : FpE ρ' σ' H b) : FpE ρ σ H b := by
  obtain ⟨i, c, a, h1, h2, h3⟩ := h
  obtain ⟨p, q⟩ := ho i c h1
  exact ⟨f i, c, a, p, by rw [← q]; exact h2, h3⟩
theorem FpE.there (R : Rep T ρ σ G H) {b : Addr} (h : FpE ρ σ H b) : ∃ o, H b = some o ∧ ∀ xs, o ≠ .tup xs := by
  obtain ⟨i, c, a, h1, h2, h3⟩ := h
  obtain ⟨a', h4, h5⟩ := R.own i c h1
  rw [h2] at h4
  cases h4
  exact Fp.there h5 h3
theorem FpE.g (R : Rep T ρ σ G H) {b : Addr} (h : FpE ρ σ H b) : G b = none := by
  obtain ⟨i, c, a, h1, h2, h3⟩ := h
  exact R.sep i c a b h1 h2 h3
/-- the cell at an address that stays -/
theorem fp_back (R : Rep T ρ σ G H) (hs : Same H H') {i : Nat} {c : Cell} {a b : Addr} (h1 : ρ[i]? = some (.own c)) (h2 : σ[i]? = some (some (.ref a))) (f : Fp H' a c b) : Fp H a c b := by
  obtain ⟨a', h4, h5⟩ := R.own i c h1
  rw [h2] at h4
  cases h4
  exact Fp.keep (fun o => hs a o) (let ⟨o, h, _⟩ := Fp.there h5 (Fp.self c); ⟨o, h⟩) f
/-- the heap grows -/
structure New (G H G' H' : Hp) : Prop where
  gs : Same G G'
  hs : Same H H'
  sub : Same G' H'
  gn : ∀ b, G b = none → G' b ≠ none → Fre H b
theorem New.refl (h : Same G H) : New G H G H := ⟨Same.refl _, Same.refl _, h, fun b e n => absurd e n⟩
theorem New.trans {G2 H2 : Hp} (a : New G H G' H') (b : New G' H' G2 H2) : New G H G2 H2 := ⟨a.gs.trans b.gs, a.hs.trans b.hs, b.sub, fun c e n => by
  by_cases h : G' c = none
  · rcases b.gn c h n with q | ⟨xs, q⟩
    · exact .inl (a.hs.free q)
    · cases q2 : H c with
      | none => exact .inl q2
      | some o => rw [a.hs c o q2] at q; exact .inr ⟨xs, by rw [q2]; exact q⟩
  · exact a.gn c e h⟩
theorem Rep.grow (R : Rep T ρ σ G H) (n : New G H G' H') : Rep T ρ σ G' H' where
  len := R.len
  sub := n.sub
  val := fun i d e => by
    obtain ⟨v, h1, h2⟩ := R.val i d e
    exact ⟨v, h1, h2.mono n.gs⟩
  own := fun i c e => by
    obtain ⟨a, h1, h2⟩ := R.own i c e
    exact ⟨a, h1, (h2.mono n.gs).keep fun b o _ q => n.hs b o q⟩
  sep := fun i c a b e s f => by
    have f' := fp_back R n.hs e s f
    have g := R.sep i c a b e s f'
    cases q : G' b with
    | none => rfl
    | some o =>
      obtain ⟨o', ho, nt⟩ := FpE.there R ⟨i, c, a, e, s, f'⟩
      rcases n.gn b g (by rw [q]; simp) with z | ⟨xs, z⟩
      · rw [z] at ho
        cases ho
      · rw [z] at ho
        cases ho
        exact absurd rfl (nt xs)
  dis := fun i j c e a a' b h1 h2 s1 s2 f1 f2 => R.dis i j c e a a' b h1 h2 s1 s2 (fp_back R n.hs h1 s1 f1) (fp_back R n.hs h2 s2 f2)
theorem Rep.growStep (R : Rep T ρ σ G H) (n : New G H G' H') : Step (FpE ρ σ H) (FpE ρ σ H') G H G' H' :=
  ⟨n.gs, fun b e q => .inr (n.gn b e q), fun b o e _ => n.hs b o e, fun b ⟨i, c, a, h1, h2, h3⟩ => .inl ⟨i, c, a, h1, h2, fp_back R n.hs h1 h2 h3⟩⟩
/-- a new thing is laid and frozen -/
theorem New.lay {p : Addr} {o : HO} (h : Same G H) (np : H p = none) : New G H (upd G p o) (upd H p o) where
  gs := fun b u e => by rw [upd_ne (ne_of_none (h b u e) np)]; exact e
  hs := fun b u e => by rw [upd_ne (ne_of_none e np)]; exact e
  sub := fun b u e => by
    by_cases hb : b = p
    · subst hb; rw [upd_same] at e ⊢; exact e
    · rw [upd_ne hb] at e ⊢; exact h b u e
  gn := fun b e n => by
    by_cases hb : b = p
    · subst hb; exact .inl np
    · rw [upd_ne hb] at n; exact absurd e n
/-- .. laid alone -/
theorem New.fresh {p : Addr} {o : HO} (h : Same G H) (np : H p = none) : New G H G (upd H p o) where
  gs := Same.refl _
  hs := fun b u e => by rw [upd_ne (ne_of_none e np)]; exact e
  sub := fun b u e => by rw [upd_ne (ne_of_none (h b u e) np)]; exact h b u e
  gn := fun b e n => absurd e n
theorem get_app {α : Type} {l : List α} {x y : α} {i : Nat} (h : (l ++ [x])[i]? = some y) : l[i]? = some y ∨ (i = l.length ∧ x = y) := by
  by_cases hi : i < l.length
  · rw [List.getElem?_append_left hi] at h; exact .inl h
  · rw [List.getElem?_append_right (by omega)] at h
    have : i - l.length = 0 := by
      cases q : i - l.length with
      | zero => rfl
      | succ n => rw [q] at h; simp at h
    rw [this] at h
    simp at h
    exact .inr ⟨by omega, h⟩
theorem get_last {α : Type} {l : List α} {x : α} : (l ++ [x])[l.length]? = some x := by simp
theorem get_init {α : Type} {l : List α} {x y : α} {i : Nat} (h : l[i]? = some y) : (l ++ [x])[i]? = some y := by
  rw [List.getElem?_append_left (List.getElem?_eq_some_iff.mp h).1]; exact h
/-- one more cell that is nobody's -/
theorem Rep.push (R : Rep T ρ σ G H) {a : Addr} {c : Cell} (h : CellAt T H G a c) (hg : ∀ b, Fp H a c b → G b = none) (hn : ∀ b, Fp H a c b → ¬ FpE ρ σ H b) : Rep T (ρ ++ [.own c]) (σ ++ [some (.ref a)]) G H where
  len := by simp [R.len]
  sub := R.sub
  val := fun i d e => by
    rcases get_app e with e | ⟨_, e⟩
    · obtain ⟨v, h1, h2⟩ := R.val i d e
      exact ⟨v, get_init h1, h2⟩
    · cases e
  own := fun i e h1 => by
    rcases get_app h1 with h1 | ⟨q, h1⟩
    · obtain ⟨b, h2, h3⟩ := R.own i e h1
      exact ⟨b, get_init h2, h3⟩
    · cases h1
      subst q
      rw [R.len]
      exact ⟨a, get_last, h⟩
  sep := fun i e a' b h1 s f => by
    rcases get_app h1 with h1 | ⟨q, h1⟩
    · obtain ⟨a2, h2, h3⟩ := R.own i e h1
      rw [get_init h2] at s
      cases s
      exact R.sep i e _ b h1 h2 f
    · cases h1
      subst q
      rw [R.len, get_last] at s
      cases s
      exact hg b f
  dis := fun i j e e' a1 a2 b h1 h2 s1 s2 f1 f2 => by
    rcases get_app h1 with h1 | ⟨q1, h1⟩ <;> rcases get_app h2 with h2 | ⟨q2, h2⟩
    · obtain ⟨b1, k1, _⟩ := R.own i e h1
      obtain ⟨b2, k2, _⟩ := R.own j e' h2
      rw [get_init k1] at s1
      rw [get_init k2] at s2
      cases s1
      cases s2
      exact R.dis i j e e' _ _ b h1 h2 k1 k2 f1 f2
    · obtain ⟨b1, k1, _⟩ := R.own i e h1
      rw [get_init k1] at s1
      cases s1
      cases h2
      subst q2
      rw [R.len, get_last] at s2
      cases s2
      exact absurd ⟨i, e, _, h1, k1, f1⟩ (hn b f2)
    · obtain ⟨b2, k2, _⟩ := R.own j e' h2
      rw [get_init k2] at s2
      cases s2
      cases h1
      subst q1
      rw [R.len, get_last] at s1
      cases s1
      exact absurd ⟨j, e', _, h2, k2, f2⟩ (hn b f1)
    · omega
theorem fpE_push (R : Rep T ρ σ G H) {a b : Addr} {c : Cell} (h : FpE (ρ ++ [.own c]) (σ ++ [some (.ref a)]) H b) : FpE ρ σ H b ∨ Fp H a c b := by
  obtain ⟨i, e, a', h1, h2, h3⟩ := h
  rcases get_app h1 with h1 | ⟨q, h1⟩
  · obtain ⟨a2, h4, _⟩ := R.own i e h1
    rw [get_init h4] at h2
    cases h2
    exact .inl ⟨i, e, _, h1, h4, h3⟩
  · cases h1
    subst q
    rw [R.len, get_last] at h2
    cases h2
    exact .inr h3
theorem Rep.init {s : Slot} {o : Option V} (R : Rep T (ρ ++ [s]) (σ ++ [o]) G H) : Rep T ρ σ G H := by
  have hl : ρ.length = σ.length := by simpa using R.len
  refine R.re hl (fun i d e => ?_) (fun i => i) (fun i c e => ⟨get_init e, ?_⟩) (fun i j c e _ _ h => h)
  · obtain ⟨v, h1, h2⟩ := R.val i d (get_init e)
    rw [List.getElem?_append_left (by have := (List.getElem?_eq_some_iff.mp e).1; omega)] at h1
    exact ⟨v, h1, h2⟩
  · rw [List.getElem?_append_left (by have := (List.getElem?_eq_some_iff.mp e).1; omega)]
theorem fpE_init {s : Slot} {o : Option V} (hl : ρ.length = σ.length) {b : Addr} (h : FpE ρ σ H b) : FpE (ρ ++ [s]) (σ ++ [o]) H b := by
  obtain ⟨i, c, a, h1, h2, h3⟩ := h
  exact ⟨i, c, a, get_init h1, get_init h2, h3⟩
end
/-! ### results -/
def FpR (ρ : Env) (σ : L2.St) (r : Res) (v : V) (H : Hp) : Addr → Prop := match r with
  | .own c => FpE (ρ ++ [.own c]) (σ ++ [some v]) H
  | _ => FpE ρ σ H
def RepR (T : Tx) (ρ : Env) (σ : L2.St) (r : Res) (v : V) (G H : Hp) : Prop := match r with
  | .own c => (∃ a, v = .ref a) ∧ Rep T (ρ ++ [.own c]) (σ ++ [some v]) G H
  | .val d => Rep T ρ σ G H ∧ Dp T G d v
  | .slot i => Rep T ρ σ G H ∧ σ[i]? = some (some v)
/-- a result by values: over the heap before it -/
def VR (T : Tx) (G H : Hp) (r : Res) (v : V) (G' H' : Hp) : Prop := New G H G' H' ∧ match r with
  | .val d => Dp T G' d v
  | .own c => c.fz = true ∧ ∃ p, v = .ref p ∧ H p = none ∧ G' p = none ∧ CellAt T H' G' p c
  | .slot _ => False
theorem Fp.one {H : Hp} {a b : Addr} {c : Cell} (h : c.fz = true) (f : Fp H a c b) : b = a := by
  cases c <;> first | exact f | cases h
section
variable {T : Tx} {ρ : Env} {σ : L2.St} {G G' H H' : Hp} {r : Res} {v : V}
theorem Rep.vr (R : Rep T ρ σ G H) (h : VR T G H r v G' H') : RepR T ρ σ r v G' H' ∧ Step (FpE ρ σ H) (FpR ρ σ r v H') G H G' H' := by
  obtain ⟨n, h⟩ := h
  have R' := R.grow n
  have S := R.growStep n
  cases r with
  | val d => exact ⟨⟨R', h⟩, S⟩
  | own c =>
    obtain ⟨hz, p, rfl, np, gp, hc⟩ := h
    refine ⟨⟨⟨p, rfl⟩, R'.push hc (fun b f => by rw [Fp.one hz f]; exact gp) (fun b f z => ?_)⟩, ⟨S.gs, S.gn, S.fr, fun b f => ?_⟩⟩
    · rw [Fp.one hz f] at z
      obtain ⟨i, c', a, h1, h2, h3⟩ := z
      obtain ⟨o, ho, _⟩ := FpE.there R ⟨i, c', a, h1, h2, fp_back R n.hs h1 h2 h3⟩
      rw [np] at ho
      cases ho
    · rcases fpE_push R' f with f | f
      · exact S.fp b f
      · rw [Fp.one hz f]; exact .inr np
  | slot i => exact h.elim
end
end Mi
namespace Mi
open PySem PySem.Spec PyProof.Rows L2
/-! ### reading data: frozen, or owned by a name -/
def Dq (T : Tx) (G H : Hp) (d : D) (v : V) : Prop := Dp T G d v ∨ ∃ a c, v = .ref a ∧ d = c.d ∧ CellAt T H G a c
section
variable {T : Tx} {G H : Hp} {v : V}
theorem Dq.int {i : Int} (h : Dq T G H (.int i) v) : v = .int i := by
  rcases h with h | ⟨a, c, _, e, _⟩
  · exact h
  · cases c <;> cases e
theorem Dq.bl {i : Bool} (h : Dq T G H (.bl i) v) : v = .bl i := by
  rcases h with h | ⟨a, c, _, e, _⟩
  · exact h
  · cases c <;> cases e
theorem Dq.str' {i : Str} (h : Dq T G H (.str i) v) : v = .str i ∧ okS i = true := by
  rcases h with h | ⟨a, c, _, e, _⟩
  · exact h
  · cases c <;> cases e
theorem Dq.str {i : Str} (h : Dq T G H (.str i) v) : v = .str i := h.str'.1
theorem Dq.non (h : Dq T G H .non v) : v = .non := by
  rcases h with h | ⟨a, c, _, e, _⟩
  · exact h
  · cases c <;> cases e
theorem Dq.lst {ds : List D} (sg : Same G H) (h : Dq T G H (.lst ds) v) : ∃ a vs, v = .ref a ∧ SqL T.K H a vs ∧ Dps T G ds vs := by
  rcases h with ⟨a, vs, h1, h2, h3⟩ | ⟨a, c, h1, e, h2⟩
  · exact ⟨a, vs, h1, sqL_mono sg h2, h3⟩
  · cases c with
    | lst xs => cases e; obtain ⟨vs, h3, h4⟩ := h2; exact ⟨a, vs, h1, SqL.of h3, h4⟩
    | _ => cases e
theorem Dq.tup {ds : List D} (sg : Same G H) (h : Dq T G H (.tup ds) v) : ∃ a vs, v = .ref a ∧ SqT T.K H a vs ∧ Dps T G ds vs ∧ TupAt T.K G a vs := by
  rcases h with ⟨a, vs, h1, h2, h3⟩ | ⟨a, c, h1, e, h2⟩
  · exact ⟨a, vs, h1, sqT_mono sg h2.sq, h3, h2⟩
  · cases c <;> cases e
theorem Dq.ftp {ds : List D} (sg : Same G H) (h : Dq T G H (.ftp ds) v) : ∃ a vs, v = .ref a ∧ SqT T.K H a vs ∧ Dps T G ds vs ∧ ∃ o, G a = some (.frz o (.tup vs)) ∧ o.dict = none := by
  rcases h with ⟨a, o, vs, h1, h2, h3⟩ | ⟨a, c, _, e, _⟩
  · exact ⟨a, vs, h1, .inl (.inr ⟨o, sg _ _ h2.1⟩), h3, o, h2⟩
  · cases c <;> cases e
theorem Dq.dK {ds : List (Ky × D)} (sg : Same G H) (h : Dq T G H (.dK ds) v) : ∃ a vs, v = .ref a ∧ Rd H a (.dK vs) ∧ DpK T G ds vs := by
  rcases h with ⟨a, o, vs, h1, h2, h3⟩ | ⟨a, c, h1, e, h2⟩
  · exact ⟨a, vs, h1, .inr ⟨o, sg _ _ h2⟩, h3⟩
  · cases c with
    | dK xs => cases e; obtain ⟨vs, h3, h4⟩ := h2; exact ⟨a, vs, h1, .inl h3, h4⟩
    | _ => cases e
theorem Dq.dT {ds : List (List Ky × D)} (sg : Same G H) (h : Dq T G H (.dT ds) v) : ∃ a vs, v = .ref a ∧ Rd H a (.dT vs) ∧ DpT T G ds vs := by
  rcases h with ⟨a, o, vs, h1, h2, h3⟩ | ⟨a, c, h1, e, h2⟩
  · exact ⟨a, vs, h1, .inr ⟨o, sg _ _ h2⟩, h3⟩
  · cases c with
    | dT xs => cases e; obtain ⟨vs, h3, h4⟩ := h2; exact ⟨a, vs, h1, .inl h3, h4⟩
    | _ => cases e
theorem Dq.obj {k : Nat} {fs : List (Str × D)} (sg : Same G H) (h : Dq T G H (.obj k fs) v) : ∃ a dx ws, v = .ref a ∧ H a = some (.ins (T.cl k) dx ws) ∧ ObF T k fs ∧ DpF T G fs ws := by
  rcases h with ⟨a, dx, ws, h1, h2, h0, h3⟩ | ⟨a, c, h1, e, h2⟩
  · exact ⟨a, dx, ws, h1, sg _ _ h2, h0, h3⟩
  · cases c with
    | obj c xs => cases e; obtain ⟨dx, vs, h3, h0, h4⟩ := h2; exact ⟨a, dx, vs, h1, h3, h0, h4⟩
    | _ => cases e
theorem VR.flat {T : Tx} {G H : Hp} {d : D} {v : V} (sg : Same G H) (h : Dp T G d v) : VR T G H (.val d) v G H := ⟨New.refl sg, h⟩
theorem VR.int {T : Tx} {G H : Hp} {i : Int} (sg : Same G H) : VR T G H (.val (.int i)) (.int i) G H := VR.flat (d := .int i) sg rfl
theorem VR.str {T : Tx} {G H : Hp} {i : Str} (sg : Same G H) (ok : okS i = true) : VR T G H (.val (.str i)) (.str i) G H := VR.flat (d := .str i) sg ⟨rfl, ok⟩
theorem okS_app {a b : Str} (ha : okS a = true) (hb : okS b = true) : okS (a ++ b) = true := by
  show (a.cps ++ b.cps).all _ = true
  rw [Array.all_append]
  exact Bool.and_eq_true_iff.mpr ⟨ha, hb⟩
theorem VR.bl {T : Tx} {G H : Hp} {i : Bool} (sg : Same G H) : VR T G H (.val (.bl i)) (.bl i) G H := VR.flat (d := .bl i) sg rfl
theorem VR.non {T : Tx} {G H : Hp} (sg : Same G H) : VR T G H (.val .non) .non G H := VR.flat (d := .non) sg rfl
theorem VR.newL {T : Tx} {G H : Hp} {ds : List D} {vs : List V} {p : Addr} (sg : Same G H) (np : H p = none) (h : Dps T G ds vs) : VR T G H (.own (.lst ds)) (.ref p) G (upd H p (.lst vs)) :=
  ⟨New.fresh sg np, rfl, p, rfl, np, sg.free np, vs, upd_same, h⟩
theorem VR.newT {T : Tx} {G H : Hp} {ds : List D} {vs : List V} {p : Addr} (sg : Same G H) (np : H p = none) (h : Dps T G ds vs) : VR T G H (.val (.tup ds)) (.ref p) (upd G p (.tup vs)) (upd H p (.tup vs)) :=
  ⟨New.lay sg np, p, vs, rfl, .inl upd_same, h.mono (New.lay (o := .tup vs) sg np).gs⟩
end
theorem big_eq : big = sizeLine := by rw [sizeLine_eq]; rfl
/-! ### binary operators -/
def rBin (T : Tx) (op : Operator) : R2 := fun x y H Q => ∃ (G : Hp) (dx dy : D) (Qp : Res → Prop), Same G H ∧ Dq T G H dx x ∧ Dq T G H dy y ∧ binW op dx dy Qp ∧ ∀ r v G' H', VR T G H r v G' H' → Qp r → Q v H'
section
variable {X : Cx} {T : Tx}
/-- list + list, read in any way -/
def rCatR (K : PySem.W.Frag) : R2 := fun x y H Q => ∃ l b xs zs, x = .ref l ∧ y = .ref b ∧ SqL K H l xs ∧ SqL K H b zs ∧ xs.length + zs.length ≤ sizeLine ∧ ∀ p, H p = none → Q (.ref p) (upd H p (.lst (xs ++ zs)))
theorem op_catR : OpR X (binaryOp .Add) (rCatR X.K) := by
  intro pins s σ H x y v u Q I rx ry h
  obtain ⟨l, b, xs, zs, rfl, rfl, hH, hB, hz, q⟩ := h
  cases rx
  cases ry
  obtain ⟨its, r, ⟨⟨k1, k2, k3, sl⟩, n, g1, c1, d1, s1⟩, _⟩ := I.list hH
  obtain ⟨its2, r2, ⟨⟨m1, m2, m3, sl2⟩, n2, g2, c2, d2, s2⟩, _⟩ := I.list hB
  simp only at c1 d1 s1 c2 d2 s2
  subst c1 d1 s1 c2 d2 s2
  have hl := r.length
  have hl2 := r2.length
  have hsz : its.toArray.size + its2.toArray.size ≤ sizeLine := by simp only [List.size_toArray]; omega
  refine concat_meets ⟨_, g1, rfl⟩ ⟨_, g2, rfl⟩ noFill_list_add seq_list_add PySem.F.slot_list_add PySem.F.entry_list_add (PySem.F.args_list_add_2 _ _) (list_addW l b _ _ n n2 none none sl sl2 hsz) ⟨g1, g2, ?_⟩
  rw [show its.toArray ++ its2.toArray = (its ++ its2).toArray by simp]
  exact ⟨.ref _, _, I.lnew (t' := s.toks) (r.append r2) (by rw [List.length_append]; omega), rfl, q _ I.fresh⟩
theorem natAbs_log {j : Int} (h0 : j ≠ 0) (h : j.natAbs < 2 ^ 9000) : j.natAbs.log2 < 9000 := by
  rw [Nat.log2_lt (by omega)]; exact h
theorem op_fdivX : OpR X (binaryOp .FloorDiv) (rI (fun _ j => j ≠ 0 ∧ j.natAbs < 2 ^ 9000) fun i j => .int (i.fdiv j)) := opI fun _ _ _ _ _ _ _ hc q => floordiv_int hc.1 q (.inl (PyProof.noPylong_of_log2 (natAbs_log hc.1 hc.2)))
theorem op_bin (hK : X.K = T.K) (op : Operator) : OpR X (binaryOp op) (rBin T op) := by
  intro pins s σ H x y v u Q I rx ry ⟨G, dx, dy, Qp, sg, hx, hy, w, k⟩
  unfold binW at w
  split at w
  · rename_i i j
    cases hx.int; cases hy.int
    exact op_add pins s σ H _ _ v u Q I rx ry ⟨i, j, rfl, rfl, k _ _ _ _ (VR.int sg) w⟩
  · rename_i i j
    cases hx.int; cases hy.int
    exact op_sub pins s σ H _ _ v u Q I rx ry ⟨i, j, rfl, rfl, k _ _ _ _ (VR.int sg) w⟩
  · rename_i i j
    cases hx.int; cases hy.int
    exact op_mul pins s σ H _ _ v u Q I rx ry ⟨i, j, rfl, rfl, w.1, k _ _ _ _ (VR.int sg) w.2⟩
  · rename_i i j
    cases hx.int; cases hy.int
    exact op_fdivX pins s σ H _ _ v u Q I rx ry ⟨i, j, rfl, rfl, w.1, k _ _ _ _ (VR.int sg) w.2⟩
  · rename_i i j
    cases hx.int; cases hy.int
    exact op_modN pins s σ H _ _ v u Q I rx ry ⟨i, j, rfl, rfl, w.1, k _ _ _ _ (VR.int sg) w.2⟩
  · rename_i i j
    cases hx.int; cases hy.int
    exact op_pow pins s σ H _ _ v u Q I rx ry ⟨i, j, rfl, rfl, w.1, k _ _ _ _ (VR.int sg) w.2⟩
  · rename_i i j
    have ex := hx.str'.2
    have ey := hy.str'.2
    cases hx.str; cases hy.str
    exact op_add_str pins s σ H _ _ v u Q I rx ry ⟨i, j, rfl, rfl, by rw [← big_eq]; exact w.1, k _ _ _ _ (VR.str sg (okS_app ex ey)) w.2⟩
  · rename_i xs ys
    obtain ⟨a, vs, rfl, h1, h2⟩ := hx.lst sg
    obtain ⟨b, ws, rfl, h3, h4⟩ := hy.lst sg
    refine op_catR pins s σ H _ _ v u Q I rx ry ⟨a, b, vs, ws, rfl, rfl, by rw [hK]; exact h1, by rw [hK]; exact h3, by rw [← big_eq, h2.len, h4.len]; exact w.1, fun p np => ?_⟩
    exact k _ _ _ _ (VR.newL sg np (h2.append h4)) w.2
  · rename_i xs ys
    obtain ⟨a, vs, rfl, h1, h2, h1'⟩ := hx.tup sg
    obtain ⟨b, ws, rfl, h3, h4, h3'⟩ := hy.tup sg
    refine op_catA pins s σ H _ _ v u Q I rx ry ⟨a, b, vs, ws, rfl, rfl, by rw [hK]; exact h1, by rw [hK]; exact h3, by rw [← big_eq, h2.len, h4.len]; exact w.1, fun e => ?_, fun _ e => ?_, fun _ _ p np => ?_⟩
    · subst e
      have e0 : xs = [] := by cases xs with
        | nil => rfl
        | cons d ds => obtain ⟨_, _, z, _⟩ := h2; cases z
      subst e0
      exact k _ _ _ _ (VR.flat (d := .tup ys) sg ⟨b, ws, rfl, h3', h4⟩) w.2
    · subst e
      have e0 : ys = [] := by cases ys with
        | nil => rfl
        | cons d ds => obtain ⟨_, _, z, _⟩ := h4; cases z
      subst e0
      exact k _ _ _ _ (VR.flat (d := .tup (xs ++ [])) sg ⟨a, vs, rfl, h1', by simpa using h2⟩) w.2
    · exact k _ _ _ _ (VR.newT sg np (h2.append h4)) w.2
  · exact w.elim
end
end Mi
namespace Mi
open PySem PySem.Spec PyProof.Rows L2
/-! ### comparisons -/
mutual
def toPy : D → PyData
  | .bl b => .bool b
  | .int i => .int i
  | .str x => .str x
  | .lst xs => .list (toPys xs)
  | .tup xs => .tuple (toPys xs)
  | .ftp xs => .tuple (toPys xs)
  | _ => .none
def toPys : List D → List PyData
  | [] => []
  | x :: xs => toPy x :: toPys xs
end
mutual
theorem toPy_eqv : ∀ (d e : D), d.plain = true → e.plain = true → PyData.eqv (toPy d) (toPy e) = D.eqv d e
  | .non, e, _, he => by cases e <;> first | rfl | cases he
  | .bl b, e, _, he => by cases e <;> first | rfl | cases he
  | .int i, e, _, he => by cases e <;> first | rfl | cases he
  | .str x, e, _, he => by cases e <;> first | rfl | cases he
  | .lst xs, e, hd, he => by
    cases e with
    | lst ys => exact toPys_eqv xs ys hd he
    | _ => first | rfl | cases he
  | .tup xs, e, hd, he => by
    cases e with
    | tup ys => exact toPys_eqv xs ys hd he
    | ftp ys => exact toPys_eqv xs ys hd he
    | _ => first | rfl | cases he
  | .ftp xs, e, hd, he => by
    cases e with
    | tup ys => exact toPys_eqv xs ys hd he
    | ftp ys => exact toPys_eqv xs ys hd he
    | _ => first | rfl | cases he
  | .bot, _, h, _ => by cases h
  | .dK _, _, h, _ => by cases h
  | .dT _, _, h, _ => by cases h
  | .obj _ _, _, h, _ => by cases h
  | .exc _ _, _, h, _ => by cases h
theorem toPys_eqv : ∀ (xs ys : List D), D.plains xs = true → D.plains ys = true → PyData.eqvAll (toPys xs) (toPys ys) = D.eqvs xs ys
  | [], [], _, _ => rfl
  | [], _ :: _, _, _ => rfl
  | _ :: _, [], _, _ => rfl
  | x :: xs, y :: ys, h1, h2 => by
    have h1' := Bool.and_eq_true_iff.mp (show (D.plain x && D.plains xs) = true from h1)
    have h2' := Bool.and_eq_true_iff.mp (show (D.plain y && D.plains ys) = true from h2)
    show (PyData.eqv (toPy x) (toPy y) && PyData.eqvAll (toPys xs) (toPys ys)) = (D.eqv x y && D.eqvs xs ys)
    rw [toPy_eqv x y h1'.1 h2'.1, toPys_eqv xs ys h1'.2 h2'.2]
end
mutual
theorem toPy_dep : ∀ (d : D), (toPy d).depth = d.dep
  | .lst xs => congrArg (· + 1) (toPys_dep xs)
  | .tup xs => congrArg (· + 1) (toPys_dep xs)
  | .ftp xs => congrArg (· + 1) (toPys_dep xs)
  | .non => rfl | .bl _ => rfl | .int _ => rfl | .str _ => rfl | .bot => rfl | .dK _ => rfl | .dT _ => rfl | .obj _ _ => rfl | .exc _ _ => rfl
theorem toPys_dep : ∀ (xs : List D), PyData.depthAll (toPys xs) = D.deps xs
  | [] => rfl
  | x :: xs => by
    show max (toPy x).depth (PyData.depthAll (toPys xs)) = max x.dep (D.deps xs)
    rw [toPy_dep x, toPys_dep xs]
end
section
variable {T : Tx} {G H : Hp} {K : PySem.W.Frag}
mutual
theorem toPy_at (hK : K = T.K) (sg : Same G H) : ∀ (d : D) (v : V), d.plain = true → Mi.Dp T G d v → L2.Dp K H v (toPy d) ∧ (toPy d).canLay0 = true
  | .non, _, _, h => by cases h; exact ⟨.non, rfl⟩
  | .bl b, _, _, h => by cases h; exact ⟨.bl b, rfl⟩
  | .int i, _, _, h => by cases h; exact ⟨.int i, rfl⟩
  | .str x, _, _, h => by obtain ⟨h, ok⟩ := h; cases h; exact ⟨.str x, ok⟩
  | .lst xs, _, p, h => by
    obtain ⟨a, vs, rfl, h1, h2⟩ := h
    obtain ⟨q1, q2⟩ := toPys_at hK sg xs vs p h2
    exact ⟨.lst (by rw [hK]; exact sqL_mono sg h1) q1, q2⟩
  | .tup xs, _, p, h => by
    obtain ⟨a, vs, rfl, h1, h2⟩ := h
    obtain ⟨q1, q2⟩ := toPys_at hK sg xs vs p h2
    exact ⟨.tup (by rw [hK]; exact sqT_mono sg h1.sq) q1, q2⟩
  | .ftp xs, _, p, h => by
    obtain ⟨a, o, vs, rfl, h1, h2⟩ := h
    obtain ⟨q1, q2⟩ := toPys_at hK sg xs vs p h2
    exact ⟨.tup (by rw [hK]; exact .inl (.inr ⟨o, sg _ _ h1.1⟩)) q1, q2⟩
  | .bot, _, p, _ => by cases p
  | .dK _, _, p, _ => by cases p
  | .dT _, _, p, _ => by cases p
  | .obj _ _, _, p, _ => by cases p
  | .exc _ _, _, p, _ => by cases p
theorem toPys_at (hK : K = T.K) (sg : Same G H) : ∀ (ds : List D) (vs : List V), D.plains ds = true → Dps T G ds vs → DpAll K H vs (toPys ds) ∧ PyData.canLayAll0 (toPys ds) = true
  | [], _, _, h => by cases h; exact ⟨.nil, rfl⟩
  | d :: ds, _, p, h => by
    obtain ⟨v, vr, rfl, h1, h2⟩ := h
    have p' := Bool.and_eq_true_iff.mp (show (D.plain d && D.plains ds) = true from p)
    obtain ⟨q1, q2⟩ := toPy_at hK sg d v p'.1 h1
    obtain ⟨q3, q4⟩ := toPys_at hK sg ds vr p'.2 h2
    exact ⟨.cons q1 q3, by show ((toPy d).canLay0 && PyData.canLayAll0 (toPys ds)) = true; rw [q2, q4]; rfl⟩
end
theorem toPy_q (hK : K = T.K) (sg : Same G H) {d : D} {v : V} (p : d.plain = true) (h : Dq T G H d v) : L2.Dp K H v (toPy d) ∧ (toPy d).canLay0 = true := by
  rcases h with h | ⟨a, c, rfl, rfl, h⟩
  · exact toPy_at hK sg d v p h
  · cases c with
    | lst xs =>
      obtain ⟨vs, h1, h2⟩ := h
      obtain ⟨q1, q2⟩ := toPys_at hK sg xs vs p h2
      exact ⟨.lst (SqL.of h1) q1, q2⟩
    | _ => cases p
end
theorem flat_plain {d : D} (h : d.flat = true) : d.plain = true := by cases d <;> first | rfl | cases h
section
variable {X : Cx} {T : Tx} {pins : List (Addr × Obj)} {s : Shared} {σ : L2.St} {G H : Hp} {x y : V} {v u : Value} {dx dy : D}
theorem cmp_eq (hK : X.K = T.K) (hu : X.A.units + 65 < cLine) (I : Inv X pins σ H s) (sg : Same G H) (hx : Dq T G H dx x) (hy : Dq T G H dy y) (rx : RelV x v) (ry : RelV y u) (w : dx.plain = true ∧ dy.plain = true ∧ min dx.dep dy.dep ≤ 60) {Q : Value → Shared → Prop} (q : Q (.bool (D.eqv dx dy)) s) :
    wpAny (model X.prog X.w) X.A (compareOp .Eq v u) Q X.xe s := by
  obtain ⟨p1, c1⟩ := toPy_q hK sg w.1 hx
  obtain ⟨p2, c2⟩ := toPy_q hK sg w.2.1 hy
  obtain ⟨as, r1⟩ := Dp.reads I _ x v p1 rx
  obtain ⟨bs, r2⟩ := Dp.reads I _ y u p2 ry
  refine SeqAt.compareEq_reads r1 r2 c1 c2 (by rw [toPy_dep, toPy_dep]; have := w.2.2; omega) ?_
  rw [toPy_eqv _ _ w.1 w.2.1]
  exact q
theorem cmp_ne (hK : X.K = T.K) (hu : X.A.units + 65 < cLine) (I : Inv X pins σ H s) (sg : Same G H) (hx : Dq T G H dx x) (hy : Dq T G H dy y) (rx : RelV x v) (ry : RelV y u) (w : dx.plain = true ∧ dy.plain = true ∧ min dx.dep dy.dep ≤ 60) {Q : Value → Shared → Prop} (q : Q (.bool (!D.eqv dx dy)) s) :
    wpAny (model X.prog X.w) X.A (compareOp .NotEq v u) Q X.xe s := by
  obtain ⟨p1, c1⟩ := toPy_q hK sg w.1 hx
  obtain ⟨p2, c2⟩ := toPy_q hK sg w.2.1 hy
  obtain ⟨as, r1⟩ := Dp.reads I _ x v p1 rx
  obtain ⟨bs, r2⟩ := Dp.reads I _ y u p2 ry
  refine SeqAt.compareNe_reads r1 r2 c1 c2 (by rw [toPy_dep, toPy_dep]; have := w.2.2; omega) ?_
  rw [toPy_eqv _ _ w.1 w.2.1]
  exact q
end
/-! ### keys -/
theorem keyOf_at {T : Tx} {G H : Hp} {d : D} {v : V} {k : Ky} (h : Dq T G H d v) (e : keyOf d = some k) : v = kV k ∧ okK k = true := by
  cases d with
  | int i => cases e; exact ⟨h.int, rfl⟩
  | str x => cases e; exact h.str'
  | _ => cases e
theorem keysOf_at {T : Tx} {G : Hp} : ∀ {ds : List D} {vs : List V} {ks : List Ky}, Dps T G ds vs → keysOf ds = some ks → vs = ks.map kV ∧ ks.all okK = true
  | [], _, _, h, e => by cases h; cases e; exact ⟨rfl, rfl⟩
  | d :: ds, _, ks, ⟨v, vr, h1, h2, h3⟩, e => by
    subst h1
    unfold keysOf at e
    split at e
    · rename_i k kr e1 e2
      cases e
      obtain ⟨q1, q2⟩ := keyOf_at (H := G) (.inl h2) e1
      obtain ⟨q3, q4⟩ := keysOf_at h3 e2
      subst q1 q3
      exact ⟨rfl, by simp [q2, q4]⟩
    · cases e
theorem DpK.valG {T : Tx} {G : Hp} : ∀ {ds : List (Ky × D)} {vs : List (Key × V)}, DpK T G ds vs → ∀ k, (∀ d, Mi.valG ds k = some d → ∃ v, valV vs k = some v ∧ Mi.Dp T G d v) ∧ (Mi.valG ds k = none → valV vs k = none)
  | [], _, h, k => by cases h; exact ⟨fun _ e => (by cases e), fun _ => rfl⟩
  | (k', d) :: ds, _, ⟨v, vr, h1, h2, h3⟩, k => by
    subst h1
    by_cases e : k' = k
    · subst e
      rw [valV_pos rfl]
      have : Mi.valG ((k', d) :: ds) k' = some d := by simp [Mi.valG]
      rw [this]
      exact ⟨fun d' q => by cases q; exact ⟨v, rfl, h2.2⟩, fun q => by cases q⟩
    · rw [valV_neg e]
      have : Mi.valG ((k', d) :: ds) k = Mi.valG ds k := by simp [Mi.valG, e]
      rw [this]
      exact DpK.valG h3 k
theorem DpT.valG {T : Tx} {G : Hp} : ∀ {ds : List (List Ky × D)} {vs : List (List Key × V)}, DpT T G ds vs → ∀ k, (∀ d, Mi.valG ds k = some d → ∃ v, valV vs k = some v ∧ Mi.Dp T G d v) ∧ (Mi.valG ds k = none → valV vs k = none)
  | [], _, h, k => by cases h; exact ⟨fun _ e => (by cases e), fun _ => rfl⟩
  | (k', d) :: ds, _, ⟨v, vr, h1, h2, h3⟩, k => by
    subst h1
    by_cases e : k' = k
    · subst e
      rw [valV_pos rfl]
      have : Mi.valG ((k', d) :: ds) k' = some d := by simp [Mi.valG]
      rw [this]
      exact ⟨fun d' q => by cases q; exact ⟨v, rfl, h2.2⟩, fun q => by cases q⟩
    · rw [valV_neg e]
      have : Mi.valG ((k', d) :: ds) k = Mi.valG ds k := by simp [Mi.valG, e]
      rw [this]
      exact DpT.valG h3 k
theorem DpK.some_iff {T : Tx} {G : Hp} {ds : List (Ky × D)} {vs : List (Key × V)} (h : DpK T G ds vs) (k : Ky) : (valV vs k).isSome = (Mi.valG ds k).isSome := by
  cases e : Mi.valG ds k with
  | none => rw [(h.valG k).2 e]; rfl
  | some d => obtain ⟨v, q, _⟩ := (h.valG k).1 d e; rw [q]; rfl
theorem DpT.some_iff {T : Tx} {G : Hp} {ds : List (List Ky × D)} {vs : List (List Key × V)} (h : DpT T G ds vs) (k : List Ky) : (valV vs k).isSome = (Mi.valG ds k).isSome := by
  cases e : Mi.valG ds k with
  | none => rw [(h.valG k).2 e]; rfl
  | some d => obtain ⟨v, q, _⟩ := (h.valG k).1 d e; rw [q]; rfl
/-- a dict's entry, by values -/
theorem dget_K {T : Tx} {G H : Hp} {kvs : List (Ky × D)} {d : D} {x y : V} {k : Ky} (sg : Same G H) (hx : Dq T G H (.dK kvs) x) (hy : Dq T G H d y) (e : keyOf d = some k) :
    ∃ a o, x = .ref a ∧ DGet H a y o ∧ IsD H a ∧ o.isSome = (Mi.valG kvs k).isSome ∧ (∀ z, Mi.valG kvs k = some z → ∃ v, o = some v ∧ Mi.Dp T G z v) ∧ (Mi.valG kvs k = none → o = none) := by
  obtain ⟨a, vs, rfl, h1, h2⟩ := hx.dK sg
  obtain ⟨rfl, _⟩ := keyOf_at hy e
  exact ⟨a, valV vs k, rfl, .inl ⟨vs, k, h1, rfl, rfl⟩, .inl ⟨vs, h1⟩, h2.some_iff k, (h2.valG k).1, (h2.valG k).2⟩
theorem tkey_at {T : Tx} {G : Hp} {ds : List D} {vs : List V} {ks : List Ky} (h : Dps T G ds vs) (e : tkey ds = some ks) : vs = ks.map kV ∧ ks.all okK = true ∧ ks ≠ [] := by
  cases ds with
  | nil => cases e
  | cons d ds =>
    obtain ⟨q1, q2⟩ := keysOf_at h e
    refine ⟨q1, q2, fun z => ?_⟩
    subst z
    obtain ⟨v, vr, h1, _⟩ := h
    rw [q1] at h1
    cases h1
theorem dget_T {T : Tx} {G H : Hp} {kvs : List (List Ky × D)} {ds : List D} {x y : V} {k : List Ky} (sg : Same G H) (hx : Dq T G H (.dT kvs) x) (hy : Dq T G H (.tup ds) y) (e : tkey ds = some k) :
    ∃ a o, x = .ref a ∧ DGet H a y o ∧ IsD H a ∧ o.isSome = (Mi.valG kvs k).isSome ∧ (∀ z, Mi.valG kvs k = some z → ∃ v, o = some v ∧ Mi.Dp T G z v) ∧ (Mi.valG kvs k = none → o = none) := by
  obtain ⟨a, vs, rfl, h1, h2⟩ := hx.dT sg
  obtain ⟨b, ws, rfl, _, h4, h5⟩ := hy.tup sg
  obtain ⟨rfl, _, hne⟩ := tkey_at h4 e
  rcases h5 with h5 | ⟨h5, _⟩
  · exact ⟨a, valV vs k, rfl, .inr ⟨vs, k, b, h1, rfl, sg _ _ h5, rfl⟩, .inr ⟨vs, h1⟩, h2.some_iff k, (h2.valG k).1, (h2.valG k).2⟩
  · cases k with
    | nil => exact absurd rfl hne
    | cons _ _ => cases h5
/-! ### in, == .. by values -/
def rCmp (T : Tx) (op : CmpOp) : R2 := fun x y H Q => ∃ (G : Hp) (dx dy : D) (Qp : Bool → Prop), Same G H ∧ Dq T G H dx x ∧ Dq T G H dy y ∧ cmpW op dx dy Qp ∧ ∀ b, Qp b → Q (.bl b) H
theorem any_toPy (d : D) (hd : d.plain = true) : ∀ (ds : List D), D.plains ds = true → ((toPys ds).any fun z => PyData.eqv z (toPy d)) = inG d ds
  | [], _ => rfl
  | e :: ds, h => by
    have h' := Bool.and_eq_true_iff.mp (show (D.plain e && D.plains ds) = true from h)
    show (PyData.eqv (toPy e) (toPy d) || (toPys ds).any fun z => PyData.eqv z (toPy d)) = (D.eqv e d || inG d ds)
    rw [toPy_eqv e d h'.1 hd, any_toPy d hd ds h'.2]
theorem flat_v {T : Tx} {G H : Hp} {d : D} {v : V} (f : d.flat = true) (h : Dq T G H d v) : flatV v = true ∧ ∀ {e : D} {u : V}, e.flat = true → Dq T G H e u → eqV v u = D.eqv d e := by
  cases d with
  | non => cases h.non; exact ⟨rfl, fun {e u} f2 h2 => by cases e <;> first | (cases h2.non; rfl) | (cases h2.bl; rfl) | (cases h2.int; rfl) | (cases h2.str; rfl) | cases f2⟩
  | bl b => cases h.bl; exact ⟨rfl, fun {e u} f2 h2 => by cases e <;> first | (cases h2.non; rfl) | (cases h2.bl; rfl) | (cases h2.int; rfl) | (cases h2.str; rfl) | cases f2⟩
  | int b => cases h.int; exact ⟨rfl, fun {e u} f2 h2 => by cases e <;> first | (cases h2.non; rfl) | (cases h2.bl; rfl) | (cases h2.int; rfl) | (cases h2.str; rfl) | cases f2⟩
  | str b => cases h.str; exact ⟨rfl, fun {e u} f2 h2 => by cases e <;> first | (cases h2.non; rfl) | (cases h2.bl; rfl) | (cases h2.int; rfl) | (cases h2.str; rfl) | cases f2⟩
  | _ => cases f
theorem flat_vs {T : Tx} {G H : Hp} {d : D} {v : V} (f : d.flat = true) (h : Dq T G H d v) : ∀ {ds : List D} {vs : List V}, ds.all D.flat = true → Dps T G ds vs → vs.all flatV = true ∧ inV v vs = inG d ds
  | [], _, _, q => by cases q; exact ⟨rfl, rfl⟩
  | e :: ds, _, a, ⟨u, ur, h1, h2, h3⟩ => by
    subst h1
    simp only [List.all_cons, Bool.and_eq_true] at a
    obtain ⟨q1, q2⟩ := flat_vs f h a.2 h3
    obtain ⟨p1, p2⟩ := flat_v (H := H) a.1 (.inl h2)
    refine ⟨by simp [p1, q1], ?_⟩
    show (eqV u v || inV v ur) = (D.eqv e d || inG d ds)
    rw [p2 f h, q2]
section
variable {X : Cx} {T : Tx}
theorem op_mem (hK : X.K = T.K) (hu : X.A.units + 65 < cLine) {pins : List (Addr × Obj)} {s : Shared} {σ : L2.St} {G H : Hp} {x y : V} {v u : Value} {dx dy : D} {Qp : Bool → Prop} (I : Inv X pins σ H s) (sg : Same G H) (hx : Dq T G H dx x) (hy : Dq T G H dy y) (rx : RelV x v) (ry : RelV y u)
    (w : isMem dx dy Qp) {Q : VK} :
    ((∀ b, Qp b → Q (.bl b) H) → wpAny (model X.prog X.w) X.A (compareOp .In v u) (EP X pins σ Q) X.xe s) ∧ ((∀ b, Qp b → Q (.bl (!b)) H) → wpAny (model X.prog X.w) X.A (compareOp .NotIn v u) (EP X pins σ Q) X.xe s) := by
  have hu1 : X.A.units + 1 < cLine := by omega
  unfold isMem at w
  split at w
  · rename_i ys
    obtain ⟨⟨w1, w2, w3, w4⟩, w⟩ := w
    obtain ⟨p1, c1⟩ := toPy_q hK sg w1 hx
    obtain ⟨p2, c2⟩ := toPy_q (d := .lst ys) hK sg w2 hy
    have s1 : SeqAt.shaped (toPy dx) = true := Bool.and_eq_true_iff.mpr ⟨c1, decide_eq_true (by rw [toPy_dep]; omega)⟩
    have s2 : SeqAt.shaped (.list (toPys ys)) = true := Bool.and_eq_true_iff.mpr ⟨c2, decide_eq_true (by have e := toPy_dep (.lst ys); show PyData.depth (toPy (.lst ys)) ≤ 64; rw [e]; show D.deps ys + 1 ≤ 64; omega)⟩
    constructor
    · intro k
      exact op_inD hu pins s σ H x y v u Q I rx ry ⟨_, _, p1, p2, s1, s2, by rw [any_toPy dx w1 ys w2]; exact k _ w⟩
    · intro k
      exact op_notInD hu pins s σ H x y v u Q I rx ry ⟨_, _, p1, p2, s1, s2, by rw [any_toPy dx w1 ys w2]; exact k _ w⟩
  · rename_i ys
    obtain ⟨⟨w1, w2⟩, w⟩ := w
    obtain ⟨a, vs, rfl, h1, h2, _⟩ := hy.tup sg
    obtain ⟨f1, f2⟩ := flat_vs w1 hx w2 h2
    obtain ⟨g1, _⟩ := flat_v w1 hx
    constructor
    · intro k
      exact op_in_seq pins s σ H x _ v u Q I rx ry ⟨a, vs, rfl, .inr (by rw [hK]; exact h1), g1, f1, by rw [f2]; exact k _ w⟩
    · intro k
      exact op_notIn_seq pins s σ H x _ v u Q I rx ry ⟨a, vs, rfl, .inr (by rw [hK]; exact h1), g1, f1, by rw [f2]; exact k _ w⟩
  · rename_i ys
    obtain ⟨⟨w1, w2⟩, w⟩ := w
    obtain ⟨a, vs, rfl, h1, h2, _⟩ := hy.ftp sg
    obtain ⟨f1, f2⟩ := flat_vs w1 hx w2 h2
    obtain ⟨g1, _⟩ := flat_v w1 hx
    constructor
    · intro k
      exact op_in_seq pins s σ H x _ v u Q I rx ry ⟨a, vs, rfl, .inr (by rw [hK]; exact h1), g1, f1, by rw [f2]; exact k _ w⟩
    · intro k
      exact op_notIn_seq pins s σ H x _ v u Q I rx ry ⟨a, vs, rfl, .inr (by rw [hK]; exact h1), g1, f1, by rw [f2]; exact k _ w⟩
  · rename_i kvs
    split at w
    · rename_i k e
      obtain ⟨a, o, rfl, g, _, e1, _⟩ := dget_K sg hy hx e
      cases ry
      constructor
      · intro q
        exact d_in hu1 I g rx fun s' I' => ⟨.bl o.isSome, H, I', rfl, by rw [e1]; exact q _ w⟩
      · intro q
        exact d_notIn hu1 I g rx fun s' I' => ⟨.bl (!o.isSome), H, I', rfl, by rw [e1]; exact q _ w⟩
    · exact w.elim
  · rename_i kvs
    split at w
    · rename_i ks
      split at w
      · rename_i k e
        obtain ⟨a, o, rfl, g, _, e1, _⟩ := dget_T sg hy hx e
        cases ry
        constructor
        · intro q
          exact d_in hu1 I g rx fun s' I' => ⟨.bl o.isSome, H, I', rfl, by rw [e1]; exact q _ w⟩
        · intro q
          exact d_notIn hu1 I g rx fun s' I' => ⟨.bl (!o.isSome), H, I', rfl, by rw [e1]; exact q _ w⟩
      · exact w.elim
    · exact w.elim
  · rename_i z
    split at w
    · rename_i c e
      have e1 := signOf_eq e
      subst e1
      cases hx.str; cases hy.str
      constructor
      · intro k
        exact op_in_sign pins s σ H _ _ v u Q I rx ry ⟨c, z, rfl, rfl, k _ w⟩
      · intro k
        exact op_notIn_sign pins s σ H _ _ v u Q I rx ry ⟨c, z, rfl, rfl, k _ w⟩
    · exact w.elim
  · exact w.elim
theorem isNon_at {T : Tx} {G H : Hp} {d : D} {v : V} (b : d.bad = false) (h : Dq T G H d v) : decide (v = .non) = d.isNon := by
  cases d with
  | non => cases h.non; rfl
  | bot => cases b
  | bl _ => cases h.bl; rfl
  | int _ => cases h.int; rfl
  | str _ => cases h.str; rfl
  | exc _ _ =>
    rcases h with h | ⟨a, c, _, e, _⟩
    · exact h.elim
    · cases c <;> cases e
  | _ =>
    rcases h with h | ⟨a, c, e, _⟩
    · first
        | (obtain ⟨a, vs, rfl, _⟩ := h; rfl)
        | (obtain ⟨a, o, vs, rfl, _⟩ := h; rfl)
    · subst e; rfl
theorem op_cmp (hK : X.K = T.K) (hu : X.A.units + 65 < cLine) (op : CmpOp) : OpR X (compareOp op) (rCmp T op) := by
  intro pins s σ H x y v u Q I rx ry ⟨G, dx, dy, Qp, sg, hx, hy, w, k⟩
  cases op with
  | Eq => exact cmp_eq hK hu I sg hx hy rx ry w.1 ⟨.bl _, H, I, rfl, k _ w.2⟩
  | NotEq => exact cmp_ne hK hu I sg hx hy rx ry w.1 ⟨.bl _, H, I, rfl, k _ w.2⟩
  | Lt =>
    unfold cmpW at w; dsimp only at w; split at w
    · cases hx.int; cases hy.int
      exact op_lt pins s σ H _ _ v u Q I rx ry ⟨_, _, rfl, rfl, k _ w⟩
    · exact w.elim
  | LtE =>
    unfold cmpW at w; dsimp only at w; split at w
    · cases hx.int; cases hy.int
      exact op_le pins s σ H _ _ v u Q I rx ry ⟨_, _, rfl, rfl, k _ w⟩
    · exact w.elim
  | Gt =>
    unfold cmpW at w; dsimp only at w; split at w
    · cases hx.int; cases hy.int
      exact op_gt pins s σ H _ _ v u Q I rx ry ⟨_, _, rfl, rfl, k _ w⟩
    · exact w.elim
  | GtE =>
    unfold cmpW at w; dsimp only at w; split at w
    · cases hx.int; cases hy.int
      exact op_ge pins s σ H _ _ v u Q I rx ry ⟨_, _, rfl, rfl, k _ w⟩
    · exact w.elim
  | Is =>
    unfold cmpW at w; dsimp only at w; split at w
    · cases hy.non
      exact op_isN pins s σ H _ _ v u Q I rx ry ⟨rfl, by rw [isNon_at w.1 hx]; exact k _ w.2⟩
    · exact w.elim
  | IsNot =>
    unfold cmpW at w; dsimp only at w; split at w
    · cases hy.non
      exact op_notN pins s σ H _ _ v u Q I rx ry ⟨rfl, by rw [isNon_at w.1 hx]; exact k _ w.2⟩
    · exact w.elim
  | In => exact (op_mem hK hu I sg hx hy rx ry (show isMem dx dy Qp from w)).1 k
  | NotIn => exact (op_mem hK hu I sg hx hy rx ry (show isMem dx dy (fun b => Qp (!b)) from w)).2 fun b q => k _ q
end
end Mi
namespace Mi
open PySem PySem.Spec PyProof.Rows L2
/-! ### subscripts -/
theorem atG_at {α : Type} (xs : List α) (i : Int) : atG xs i = atI xs i := rfl
theorem atG_dp {T : Tx} {G : Hp} {ds : List D} {vs : List V} {i : Int} {d : D} (h : Dps T G ds vs) (e : atG ds i = some d) : ∃ v, atI vs i = some v ∧ Dp T G d v := by
  unfold atG at e
  unfold atI
  have hl := h.len
  cases q : ixG ds.length i with
  | none => rw [q] at e; cases e
  | some j =>
    rw [q] at e
    have q' : ixN vs.length i = some j := by rw [hl]; exact q
    rw [q']
    exact h.get e
def rSub (T : Tx) : R2 := fun x y H Q => ∃ (G : Hp) (dx dy : D) (Qp : D → Prop), Same G H ∧ Dq T G H dx x ∧ Dq T G H dy y ∧ subW dx dy Qp ∧ ∀ d v, Dp T G d v → Qp d → Q v H
section
variable {X : Cx} {T : Tx}
def rIxG : R2 := fun x y H Q => ∃ a v, x = .ref a ∧ DGet H a y (some v) ∧ Q v H
theorem ix_dct (hu : X.A.units + 65 < cLine) : IxR X rIxG := by
  intro value slice pins s σ H x y v u Q I rx ry ⟨a, z, ex, g, q⟩ hs
  subst ex
  obtain rfl : v = Value.ref a := rx
  have hT := dict_typeIs I g
  unfold subscriptTail
  refine wpAny_bind ?_
  rw [getitemInPython_of_ne hT.not_modules]
  refine wpAny_bind (wpAny_specialOf hT PySem.F.slot_dict_getitem.lookup ?_)
  have go : wpAny (model X.prog X.w) X.A (getItem (.ref a) u) (EP X pins σ Q) X.xe s := d_getItem (by omega) I g ry fun w' s3 I3 rw' => ⟨z, H, I3, rw', q⟩
  have fin : wpAny (model X.prog X.w) X.A (subscripted slice false (.ref a) u) (fun r s3 => wpAny (model X.prog X.w) X.A (letTemporaryGo value (.ref a) r >>= fun _ => pure r) (EP X pins σ Q) X.xe s3) X.xe s := by
    rw [hs]
    exact wpAny_operating (wpAny_mono go (fun r s3 h3 => wpAny_bind (wpAny_letTemporaryGo (wpAny_pure h3))) fun _ _ x => x)
  first
    | exact wpAny_pure (wpAny_bind fin)
    | exact wpAny_bind (wpAny_pure (wpAny_bind fin))
    | exact wpAny_bind fin
theorem ix_sub (hK : X.K = T.K) (hu : X.A.units + 65 < cLine) : IxR X (rSub T) := by
  intro value slice pins s σ H x y v u Q I rx ry ⟨G, dx, dy, Qp, sg, hx, hy, w, k⟩ hs
  unfold subW at w
  split at w
  · split at w
    · split at w
      · rename_i e
        obtain ⟨a, vs, rfl, h1, h2⟩ := hx.lst sg
        cases hy.int
        obtain ⟨z, e2, dz⟩ := atG_dp h2 e
        exact ix_list value slice pins s σ H _ _ v u Q I rx ry ⟨a, vs, _, z, rfl, rfl, by rw [hK]; exact h1, e2, k _ _ dz w⟩ hs
      · exact w.elim
    · exact w.elim
  · split at w
    · split at w
      · rename_i e
        obtain ⟨a, vs, rfl, h1, h2, _⟩ := hx.tup sg
        cases hy.int
        obtain ⟨z, e2, dz⟩ := atG_dp h2 e
        exact ix_tup value slice pins s σ H _ _ v u Q I rx ry ⟨a, vs, _, z, rfl, rfl, by rw [hK]; exact h1, e2, k _ _ dz w⟩ hs
      · exact w.elim
    · exact w.elim
  · split at w
    · split at w
      · rename_i e
        obtain ⟨a, vs, rfl, h1, h2, _⟩ := hx.ftp sg
        cases hy.int
        obtain ⟨z, e2, dz⟩ := atG_dp h2 e
        exact ix_tup value slice pins s σ H _ _ v u Q I rx ry ⟨a, vs, _, z, rfl, rfl, by rw [hK]; exact h1, e2, k _ _ dz w⟩ hs
      · exact w.elim
    · exact w.elim
  · split at w
    · rename_i e
      split at w
      · rename_i d e2
        obtain ⟨a, o, rfl, g, _, _, h1, _⟩ := dget_K sg hx hy e
        obtain ⟨z, rfl, dz⟩ := h1 _ e2
        exact ix_dct hu value slice pins s σ H _ _ v u Q I rx ry ⟨a, z, rfl, g, k _ _ dz w⟩ hs
      · exact w.elim
    · exact w.elim
  · split at w
    · split at w
      · rename_i e
        split at w
        · rename_i d e2
          obtain ⟨a, o, rfl, g, _, _, h1, _⟩ := dget_T sg hx hy e
          obtain ⟨z, rfl, dz⟩ := h1 _ e2
          exact ix_dct hu value slice pins s σ H _ _ v u Q I rx ry ⟨a, z, rfl, g, k _ _ dz w⟩ hs
        · exact w.elim
      · exact w.elim
    · exact w.elim
  · exact w.elim
/-! ### slices -/
theorem cut_dp {T : Tx} {G : Hp} {ds : List D} {vs : List V} (h : Dps T G ds vs) (lo hi : Option Int) : Dps T G (cutG ds lo hi) (cutV vs lo hi) := by
  have hl := h.len
  have e : ∀ n d o, sIxG n d o = HT.sIx n d o := fun n d o => by cases o <;> rfl
  unfold cutG cutV
  rw [← hl, e, e]
  exact (h.drop _).take _
theorem okS_iff {x : Str} : okS x = true ↔ ∀ c ∈ x.cps.toList, c < 0x110000 := by
  unfold okS
  rw [Array.all_eq_true_iff_forall_mem]
  simp
theorem okS_cut {z : Str} (h : okS z = true) (lo hi : Option Int) : okS (cutStr z lo hi) = true := by
  rw [okS_iff] at h ⊢
  intro c hc
  refine h c ?_
  unfold cutStr cutG at hc
  simp only [List.toList_toArray] at hc
  exact List.mem_of_mem_drop (List.mem_of_mem_take hc)
theorem cutStr_eq (z : Str) (lo hi : Option Int) : cutStr z lo hi = cutS z lo hi := by
  have e : ∀ n d o, sIxG n d o = HT.sIx n d o := fun n d o => by cases o <;> rfl
  unfold cutStr cutS cutG
  rw [e, e]
  simp only [Array.length_toList]
  rfl
def rSlc (T : Tx) : V → Option Int → Option Int → Hp → VK → Prop := fun x lo hi H Q => ∃ (G : Hp) (dx : D) (Qp : Res → Prop), Same G H ∧ Dq T G H dx x ∧ slcW dx lo hi Qp ∧ ∀ r v G' H', VR T G H r v G' H' → Qp r → Q v H'
theorem sl_slc (hK : X.K = T.K) : SlR X (rSlc T) := by
  intro pins s σ H x v vl vu lo hi sl Q I rx hs pl pu ⟨G, dx, Qp, sg, hx, w, k⟩
  unfold slcW at w
  split at w
  · obtain ⟨a, vs, rfl, h1, h2⟩ := hx.lst sg
    exact sl_list pins s σ H _ v vl vu lo hi sl Q I rx hs pl pu ⟨a, vs, rfl, by rw [hK]; exact h1, fun p np => k _ _ _ _ (VR.newL sg np (cut_dp h2 lo hi)) w⟩
  · have ok := hx.str'.2
    cases hx.str
    refine sl_str pins s σ H _ v vl vu lo hi sl Q I rx hs pl pu ⟨_, rfl, by rw [← big_eq]; exact w.1, ?_⟩
    rw [← cutStr_eq]
    exact k _ _ _ _ (VR.str sg (okS_cut ok lo hi)) w.2
  · rename_i xs
    obtain ⟨a, vs, rfl, h1, h2, h3⟩ := hx.tup sg
    refine sl_tupA pins s σ H _ v vl vu lo hi sl Q I rx hs pl pu ⟨a, vs, rfl, by rw [hK]; exact h1, fun q => ?_, fun _ p np => ?_⟩
    · have c := cut_dp h2 lo hi
      have e : cutV vs lo hi = vs := by unfold cutV; rw [q.1, q.2]; simp
      rw [e] at c
      exact k _ _ _ _ (VR.flat (d := .tup (cutG xs lo hi)) sg ⟨a, vs, rfl, h3, c⟩) w
    · exact k _ _ _ _ (VR.newT sg np (cut_dp h2 lo hi)) w
  · exact w.elim
/-! ### attributes -/
theorem DpF.lookup {G : Hp} : ∀ {ds : List (Str × D)} {vs : List (Str × V)} {f : Str}, DpF T G ds vs → (∀ d, Mi.valG ds f = some d → ∃ v, vs.lookup f = some v ∧ Dp T G d v) ∧ (Mi.valG ds f = none → vs.lookup f = none)
  | [], _, _, h => by cases h; exact ⟨fun _ e => (by cases e), fun _ => rfl⟩
  | (k, d) :: ds, _, f, ⟨v, vr, h1, h2, h3⟩ => by
    subst h1
    by_cases e : k = f
    · subst e
      have : Mi.valG ((k, d) :: ds) k = some d := by simp [Mi.valG]
      rw [this]
      refine ⟨fun d' q => ?_, fun q => by cases q⟩
      cases q
      exact ⟨v, by simp [List.lookup], h2⟩
    · have : Mi.valG ((k, d) :: ds) f = Mi.valG ds f := by simp [Mi.valG, e]
      rw [this]
      have e' : (f == k) = false := by simpa using fun z => e z.symm
      have : List.lookup f ((k, v) :: vr) = List.lookup f vr := by simp [List.lookup, e']
      rw [this]
      exact DpF.lookup h3
/-! ### built-ins -/
inductive Dqs (T : Tx) (G H : Hp) : List D → List V → Prop
  | nil : Dqs T G H [] []
  | cons {d : D} {ds : List D} {v : V} {vs : List V} : Dq T G H d v → Dqs T G H ds vs → Dqs T G H (d :: ds) (v :: vs)
def rCall (T : Tx) (W : List D → (Res → Prop) → Prop) : List V → Hp → VK → Prop := fun xs H Q => ∃ (G : Hp) (ds : List D) (Qp : Res → Prop), Same G H ∧ Dqs T G H ds xs ∧ W ds Qp ∧ ∀ r v G' H', VR T G H r v G' H' → Qp r → Q v H'
theorem ints_at {G : Hp} : ∀ {ds : List D} {vs : List V} {ns : List Int}, Dps T G ds vs → intsOf ds = some ns → vs = ns.map V.int
  | [], _, _, h, e => by cases h; cases e; rfl
  | d :: ds, _, ns, ⟨v, vr, h1, h2, h3⟩, e => by
    subst h1
    cases d with
    | int i =>
      have e2 : (match intsOf ds with | some r => some (i :: r) | none => none) = some ns := e
      cases q : intsOf ds with
      | none => rw [q] at e2; cases e2
      | some r =>
        rw [q] at e2
        cases e2
        cases h2
        rw [ints_at h3 q]
        rfl
    | _ => cases e
theorem bls_at {G : Hp} : ∀ {ds : List D} {vs : List V} {ns : List Bool}, Dps T G ds vs → blsOf ds = some ns → vs = ns.map V.bl
  | [], _, _, h, e => by cases h; cases e; rfl
  | d :: ds, _, ns, ⟨v, vr, h1, h2, h3⟩, e => by
    subst h1
    cases d with
    | bl i =>
      have e2 : (match blsOf ds with | some r => some (i :: r) | none => none) = some ns := e
      cases q : blsOf ds with
      | none => rw [q] at e2; cases e2
      | some r =>
        rw [q] at e2
        cases e2
        cases h2
        rw [bls_at h3 q]
        rfl
    | _ => cases e
theorem strs_at {G : Hp} : ∀ {ds : List D} {vs : List V} {ns : List Str}, Dps T G ds vs → strsOf ds = some ns → vs = ns.map V.str ∧ ∀ x ∈ ns, okS x = true
  | [], _, _, h, e => by cases h; cases e; exact ⟨rfl, by simp⟩
  | d :: ds, _, ns, ⟨v, vr, h1, h2, h3⟩, e => by
    subst h1
    cases d with
    | str i =>
      have e2 : (match strsOf ds with | some r => some (i :: r) | none => none) = some ns := e
      cases q : strsOf ds with
      | none => rw [q] at e2; cases e2
      | some r =>
        rw [q] at e2
        cases e2
        obtain ⟨h2, ok⟩ := h2
        cases h2
        obtain ⟨p1, p2⟩ := strs_at h3 q
        rw [p1]
        exact ⟨rfl, by simpa using ⟨ok, p2⟩⟩
    | _ => cases e
theorem maxL_ge : ∀ (l : List Int) (m : Int), m ≤ maxL m l ∧ (∀ x ∈ l, x ≤ maxL m l) ∧ (maxL m l = m ∨ maxL m l ∈ l)
  | [], m => ⟨Int.le_refl _, by simp, .inl rfl⟩
  | x :: l, m => by
    show m ≤ maxL (if x > m then x else m) l ∧ (∀ y ∈ x :: l, y ≤ maxL (if x > m then x else m) l) ∧ _
    obtain ⟨h1, h2, h3⟩ := maxL_ge l (if x > m then x else m)
    have e : maxL m (x :: l) = maxL (if x > m then x else m) l := rfl
    rw [e]
    by_cases c : x > m
    · rw [if_pos c] at h1 h2 h3 ⊢
      refine ⟨by omega, fun y hy => ?_, .inr ?_⟩
      · rcases List.mem_cons.mp hy with rfl | hy
        · exact h1
        · exact h2 y hy
      · rcases h3 with h3 | h3
        · rw [h3]; exact List.mem_cons_self
        · exact List.mem_cons_of_mem _ h3
    · rw [if_neg c] at h1 h2 h3 ⊢
      refine ⟨h1, fun y hy => ?_, ?_⟩
      · rcases List.mem_cons.mp hy with rfl | hy
        · omega
        · exact h2 y hy
      · rcases h3 with h3 | h3
        · exact .inl h3
        · exact .inr (List.mem_cons_of_mem _ h3)
theorem minL_le : ∀ (l : List Int) (m : Int), minL m l ≤ m ∧ (∀ x ∈ l, minL m l ≤ x) ∧ (minL m l = m ∨ minL m l ∈ l)
  | [], m => ⟨Int.le_refl _, by simp, .inl rfl⟩
  | x :: l, m => by
    obtain ⟨h1, h2, h3⟩ := minL_le l (if x < m then x else m)
    have e : minL m (x :: l) = minL (if x < m then x else m) l := rfl
    rw [e]
    by_cases c : x < m
    · rw [if_pos c] at h1 h2 h3 ⊢
      refine ⟨by omega, fun y hy => ?_, .inr ?_⟩
      · rcases List.mem_cons.mp hy with rfl | hy
        · exact h1
        · exact h2 y hy
      · rcases h3 with h3 | h3
        · rw [h3]; exact List.mem_cons_self
        · exact List.mem_cons_of_mem _ h3
    · rw [if_neg c] at h1 h2 h3 ⊢
      refine ⟨h1, fun y hy => ?_, ?_⟩
      · rcases List.mem_cons.mp hy with rfl | hy
        · omega
        · exact h2 y hy
      · rcases h3 with h3 | h3
        · exact .inl h3
        · exact .inr (List.mem_cons_of_mem _ h3)
theorem max_is {n m : Int} {ns : List Int} (h1 : m ∈ n :: ns) (h2 : ∀ y ∈ n :: ns, y ≤ m) : m = maxL n ns := by
  obtain ⟨a, b, c⟩ := maxL_ge ns n
  have p : maxL n ns ≤ m := by
    rcases c with c | c
    · rw [c]; exact h2 n List.mem_cons_self
    · exact h2 _ (List.mem_cons_of_mem _ c)
  rcases List.mem_cons.mp h1 with rfl | h1
  · omega
  · have := b m h1; omega
theorem min_is {n m : Int} {ns : List Int} (h1 : m ∈ n :: ns) (h2 : ∀ y ∈ n :: ns, m ≤ y) : m = minL n ns := by
  obtain ⟨a, b, c⟩ := minL_le ns n
  have p : m ≤ minL n ns := by
    rcases c with c | c
    · rw [c]; exact h2 n List.mem_cons_self
    · exact h2 _ (List.mem_cons_of_mem _ c)
  rcases List.mem_cons.mp h1 with rfl | h1
  · omega
  · have := b m h1; omega
end
end Mi
namespace Mi
open PySem PySem.Spec PyProof.Rows L2
def bltV : Blt → Value
  | .ftuple1 => .type "tuple" | .len => .builtin "len" | .abs => .builtin "abs" | .max1 => .builtin "max" | .min1 => .builtin "min" | .max2 => .builtin "max" | .min2 => .builtin "min" | .max1d => .builtin "max" | .min1d => .builtin "min"
  | .int1 => .type "int" | .list1 => .type "list" | .tuple1 => .type "tuple" | .dict1 => .type "dict" | .sum1 => .builtin "sum" | .all1 => .builtin "all" | .any1 => .builtin "any" | .str1 => .type "str"
theorem Dqs.one {T : Tx} {G H : Hp} {d : D} {vs : List V} (h : Dqs T G H [d] vs) : ∃ v, vs = [v] ∧ Dq T G H d v := by
  cases h with
  | cons h1 h2 => cases h2; exact ⟨_, rfl, h1⟩
theorem Dqs.two {T : Tx} {G H : Hp} {d e : D} {vs : List V} (h : Dqs T G H [d, e] vs) : ∃ v w, vs = [v, w] ∧ Dq T G H d v ∧ Dq T G H e w := by
  cases h with
  | cons h1 h2 =>
    obtain ⟨w, rfl, h3⟩ := h2.one
    exact ⟨_, w, rfl, h1, h3⟩
section
variable {X : Cx} {T : Tx}
theorem okS_one {x : Str} (h : okS x = true) {c : Nat} (hc : c ∈ x.cps.toList) : okS ⟨#[c]⟩ = true := by
  rw [okS_iff] at h ⊢
  intro d hd
  have : d = c := by simpa using hd
  rw [this]; exact h c hc
theorem signs_dp {G : Hp} : ∀ {l : List Nat}, (∀ c ∈ l, c < 0x110000) → Dps T G (l.map fun c => D.str ⟨#[c]⟩) (l.map fun c => V.str ⟨#[c]⟩)
  | [], _ => rfl
  | c :: l, h => ⟨.str ⟨#[c]⟩, l.map fun c => V.str ⟨#[c]⟩, rfl, ⟨rfl, okS_iff.mpr fun d hd => by
    have e : d = c := by simpa using hd
    rw [e]
    exact h c List.mem_cons_self⟩, signs_dp fun d hd => h d (List.mem_cons_of_mem _ hd)⟩
theorem vals_signs {x : Str} {acc : Array Value} (h : ItemsOf (SignAt x) acc x.cps.size) : Vals (x.cps.toList.map fun c => V.str ⟨#[c]⟩) acc.toList := by
  obtain ⟨hl, hi⟩ := h
  have key : ∀ (l : List Nat) (us : List Value), l.length = us.length → (∀ (j : Nat) (u : Value), us[j]? = some u → ∃ c t, l[j]? = some c ∧ u = .str ⟨#[c]⟩ t) → Vals (l.map fun c => V.str ⟨#[c]⟩) us := by
    intro l
    induction l with
    | nil =>
      intro us e _
      cases us with
      | nil => exact .nil
      | cons _ _ => cases e
    | cons c l ih =>
      intro us e q
      cases us with
      | nil => cases e
      | cons u us =>
        obtain ⟨c', t, h1, h2⟩ := q 0 u rfl
        cases h1
        refine .cons ⟨t, h2⟩ (ih us (by simpa using e) fun j u hu => ?_)
        obtain ⟨c', t, h1, h2⟩ := q (j + 1) u (by simpa using hu)
        exact ⟨c', t, by simpa using h1, h2⟩
  refine key _ _ (by simp [hl]) fun j u hu => ?_
  obtain ⟨c, t, h1, h2⟩ := hi j u (by rw [← Array.getElem?_toList]; exact hu)
  exact ⟨c, t, by rw [Array.getElem?_toList]; exact h1, h2⟩
theorem call_list_txt (hc : X.calm = true) : CallR X (.type "list") (fun xs H Q => ∃ x, xs = [.str x] ∧ x.length ≤ sizeLine ∧ ∀ p, H p = none → Q (.ref p) (upd H p (.lst (x.cps.toList.map fun c => V.str ⟨#[c]⟩)))) := by
  intro pins s σ H xs us Q I r ⟨x, ex, hz, q⟩
  subst ex
  obtain ⟨u, rfl, t, rfl⟩ := vals1 r
  refine call_list_str (I.ok.hd hc) x t (fun h' tk acc c kp e it => ?_) hz
  have hv := vals_signs it
  have l2 : (x.cps.toList.map fun c => V.str ⟨#[c]⟩).length ≤ sizeLine := by
    rw [List.length_map, Array.length_toList]
    exact hz
  refine ⟨.ref s.heap.objs.size, upd H s.heap.objs.size (.lst (x.cps.toList.map fun c => V.str ⟨#[c]⟩)), I.laid (t' := tk) kp (Nat.le_refl _) ?_, rfl, q _ I.fresh⟩
  refine ⟨l2, acc.toList, c, hv, ?_⟩
  have : acc.toList.toArray = acc := by simp
  rw [this]
  exact e
theorem keys_dp {G : Hp} : ∀ {ds : List (Ky × D)} {vs : List (Key × V)}, DpK T G ds vs → Dps T G (ds.map fun kv => kD kv.1) (vs.map fun kv => kV kv.1)
  | [], _, h => by cases h; exact rfl
  | (k, d) :: ds, _, ⟨v, vr, h1, h2, h3⟩ => by
    subst h1
    refine ⟨kV k, vr.map fun kv => kV kv.1, rfl, ?_, keys_dp h3⟩
    cases k with
    | inl i => exact rfl
    | inr x => exact ⟨rfl, h2.1⟩
theorem key_dp {G : Hp} : ∀ {ks : List Ky}, ks.all okK = true → Dps T G (ks.map kD) (ks.map kV)
  | [], _ => rfl
  | k :: ks, h => by
    simp only [List.all_cons, Bool.and_eq_true] at h
    refine ⟨kV k, ks.map kV, rfl, ?_, key_dp h.2⟩
    cases k with
    | inl i => exact rfl
    | inr x => exact ⟨rfl, h.1⟩
/-- a tuple that stands is frozen -/
theorem New.tup {G H : Hp} {b : Addr} {xs : List V} (sg : Same G H) (h : H b = some (.tup xs)) : New G H (upd G b (.tup xs)) H where
  gs := fun c o e => by
    by_cases hc : c = b
    · subst hc; rw [upd_same, ← h]; exact (sg _ _ e)
    · rw [upd_ne hc]; exact e
  hs := Same.refl _
  sub := fun c o e => by
    by_cases hc : c = b
    · subst hc; rw [upd_same] at e; rw [h]; exact e
    · rw [upd_ne hc] at e; exact sg _ _ e
  gn := fun c e n => by
    by_cases hc : c = b
    · subst hc; exact .inr ⟨xs, h⟩
    · rw [upd_ne hc] at n; exact absurd e n
theorem tkeys_new {H : Hp} : ∀ {ds : List (List Ky × D)} {vs : List (List Key × V)} {bs : List Addr} {G0 G : Hp}, Same G H → DpT T G0 ds vs → IsKeys H vs bs → ∃ G', New G H G' H ∧ Dps T G' (ds.map fun kv => .tup (kv.1.map kD)) (bs.map V.ref)
  | [], _, bs, _, G, sg, h, q => by
    cases h
    cases q
    exact ⟨G, New.refl sg, rfl⟩
  | (k, d) :: ds, _, bs, G0, G, sg, ⟨v, vr, h1, h2, h3⟩, q => by
    subst h1
    unfold IsKeys at q
    cases q with
    | cons q1 q2 =>
      rename_i b bs
      obtain ⟨G1, n1, h4⟩ := tkeys_new sg h3 q2
      have n2 := New.tup n1.sub q1
      refine ⟨_, n1.trans n2, .ref b, bs.map V.ref, rfl, ?_, h4.mono n2.gs⟩
      exact ⟨b, k.map kV, rfl, .inl upd_same, key_dp h2.1⟩
theorem call_ftuple : CallR X (.type "tuple") (fun xs H Q => ∃ p ys, xs = [.ref p] ∧ SqL X.K H p ys ∧ ∀ (o : Obj) l, o.dict = none → H l = none → Q (.ref l) (upd H l (.frz o (.tup ys)))) := by
  intro pins s σ H xs us Q I r h
  obtain ⟨p, ys, rfl, hq, q⟩ := h
  obtain ⟨u, rfl, rx⟩ := vals1 r
  cases rx
  obtain ⟨its, r', pl, hz⟩ := I.list hq
  have hlen := r'.length
  refine call_tuple_list pl.isList (fun h' kp => ?_) (by simp only [List.size_toArray] <;> omega)
  have I1 : Inv X pins σ H { s with heap := h' } := I.kept (t' := s.toks) kp
  have I2 : Inv X pins σ (upd H h'.objs.size (.frz { cls := .type "tuple", data := .seq its.toArray } (.tup ys))) { s with heap := h'.push { cls := .type "tuple", data := .seq its.toArray } } :=
    I1.laid (t' := s.toks) (fun b o e => Heap.get?_push_of_some _ e) (Nat.le_refl _) (show ObjOk X.prog X.w _ _ _ (.frz _ (.tup ys)) from ⟨Heap.get?_push_size _ rfl, hz, its, r', IsTup.new _ _⟩)
  exact ⟨.ref h'.objs.size, _, I2, rfl, q _ _ rfl (I1.hok.fresh (Nat.le_refl _))⟩
theorem VR.newFT {T : Tx} {G H : Hp} {ds : List D} {vs : List V} {p : Addr} {o : Obj} (sg : Same G H) (np : H p = none) (hn : o.dict = none) (h : Dps T G ds vs) : VR T G H (.val (.ftp ds)) (.ref p) (upd G p (.frz o (.tup vs))) (upd H p (.frz o (.tup vs))) :=
  have n := New.lay (o := .frz o (.tup vs)) sg np
  ⟨n, p, o, vs, rfl, ⟨upd_same, hn⟩, h.mono n.gs⟩
theorem call_blt (hK : X.K = T.K) (hc : X.calm = true) : ∀ b, CallR X (bltV b) (rCall T (bltW b)) := by
  intro b pins s σ H xs us Q I r ⟨G, ds, Qp, sg, hd, w, k⟩
  unfold bltW at w
  split at w
  · obtain ⟨x, rfl, h⟩ := hd.one
    obtain ⟨a, vs, rfl, h1, h2⟩ := h.lst sg
    exact call_len_seq pins s σ H _ us Q I r ⟨a, vs, rfl, .inl (by rw [hK]; exact h1), by rw [h2.len]; exact k _ _ _ _ (VR.int sg) w⟩
  · obtain ⟨x, rfl, h⟩ := hd.one
    obtain ⟨a, vs, rfl, h1, h2, _⟩ := h.tup sg
    exact call_len_seq pins s σ H _ us Q I r ⟨a, vs, rfl, .inr (by rw [hK]; exact h1), by rw [h2.len]; exact k _ _ _ _ (VR.int sg) w⟩
  · obtain ⟨x, rfl, h⟩ := hd.one
    obtain ⟨a, vs, rfl, h1, h2, _⟩ := h.ftp sg
    exact call_len_seq pins s σ H _ us Q I r ⟨a, vs, rfl, .inr (by rw [hK]; exact h1), by rw [h2.len]; exact k _ _ _ _ (VR.int sg) w⟩
  · obtain ⟨x, rfl, h⟩ := hd.one
    cases h.str
    exact call_len pins s σ H _ us Q I r ⟨_, _, rfl, ⟨by rw [← big_eq]; exact w.1, rfl⟩, k _ _ _ _ (VR.int sg) w.2⟩
  · obtain ⟨x, rfl, h⟩ := hd.one
    obtain ⟨a, vs, rfl, h1, h2⟩ := h.dK sg
    obtain ⟨u, rfl, ru⟩ := vals1 r
    cases ru
    have e : vs.length = ‹List (Ky × D)›.length := by
      have := (keys_dp h2).len
      simpa using this
    exact d_len I h1 fun t s' I' => ⟨.int _, H, I', ⟨t, rfl⟩, by rw [e]; exact k _ _ _ _ (VR.int sg) w⟩
  · obtain ⟨x, rfl, h⟩ := hd.one
    cases h.int
    exact call_abs pins s σ H _ us Q I r ⟨_, rfl, k _ _ _ _ (VR.int sg) w⟩
  · obtain ⟨x, y, rfl, h1, h2⟩ := hd.two
    cases h1.int; cases h2.int
    exact call_max2 hc pins s σ H _ us Q I r ⟨_, _, rfl, k _ _ _ _ (VR.int sg) w⟩
  · obtain ⟨x, y, rfl, h1, h2⟩ := hd.two
    cases h1.int; cases h2.int
    exact call_min2 hc pins s σ H _ us Q I r ⟨_, _, rfl, k _ _ _ _ (VR.int sg) w⟩
  · split at w
    · rename_i n ns e
      obtain ⟨x, rfl, h⟩ := hd.one
      obtain ⟨a, vs, rfl, h1, h2⟩ := h.lst sg
      have := ints_at h2 e
      subst this
      exact cr_max hc pins s σ H _ us Q I r ⟨a, n :: ns, rfl, by rw [hK]; exact h1, by simp, fun m m1 m2 => by rw [max_is m1 m2]; exact k _ _ _ _ (VR.int sg) w⟩
    · exact w.elim
  · split at w
    · rename_i n ns e
      obtain ⟨x, rfl, h⟩ := hd.one
      obtain ⟨a, vs, rfl, h1, h2⟩ := h.lst sg
      have := ints_at h2 e
      subst this
      exact cr_min hc pins s σ H _ us Q I r ⟨a, n :: ns, rfl, by rw [hK]; exact h1, by simp, fun m m1 m2 => by rw [min_is m1 m2]; exact k _ _ _ _ (VR.int sg) w⟩
    · exact w.elim
  · obtain ⟨x, rfl, h⟩ := hd.one
    cases h.int
    exact call_int1 pins s σ H _ us Q I r (.inl ⟨_, rfl, k _ _ _ _ (VR.int sg) w⟩)
  · obtain ⟨x, rfl, h⟩ := hd.one
    cases h.bl
    exact call_int1 pins s σ H _ us Q I r (.inr ⟨_, rfl, k _ _ _ _ (VR.int sg) w⟩)
  · split at w
    · obtain ⟨x, rfl, h⟩ := hd.one
      obtain ⟨a, vs, rfl, h1, h2⟩ := h.lst sg
      exact call_list_of pins s σ H _ us Q I r ⟨a, vs, rfl, .inl (by rw [hK]; exact h1), fun l nl => k _ _ _ _ (VR.newL sg nl h2) w⟩
    · obtain ⟨x, rfl, h⟩ := hd.one
      obtain ⟨a, vs, rfl, h1, h2, _⟩ := h.tup sg
      exact call_list_of pins s σ H _ us Q I r ⟨a, vs, rfl, .inr (by rw [hK]; exact h1), fun l nl => k _ _ _ _ (VR.newL sg nl h2) w⟩
    · obtain ⟨x, rfl, h⟩ := hd.one
      obtain ⟨a, vs, rfl, h1, h2, _⟩ := h.ftp sg
      exact call_list_of pins s σ H _ us Q I r ⟨a, vs, rfl, .inr (by rw [hK]; exact h1), fun l nl => k _ _ _ _ (VR.newL sg nl h2) w⟩
    · obtain ⟨x, rfl, h⟩ := hd.one
      have ok := h.str'.2
      cases h.str
      exact call_list_txt hc pins s σ H _ us Q I r ⟨_, rfl, by rw [← big_eq]; exact w.1, fun l nl => k _ _ _ _ (VR.newL sg nl (signs_dp (okS_iff.mp ok))) w.2⟩
    · obtain ⟨x, rfl, h⟩ := hd.one
      obtain ⟨a, vs, rfl, h1, h2⟩ := h.dK sg
      exact call_listD hc pins s σ H _ us Q I r ⟨a, vs, rfl, h1, fun l nl => k _ _ _ _ (VR.newL sg nl (keys_dp h2)) w⟩
    · obtain ⟨x, rfl, h⟩ := hd.one
      obtain ⟨a, vs, rfl, h1, h2⟩ := h.dT sg
      refine call_list_dT hc pins s σ H _ us Q I r ⟨a, vs, rfl, h1, fun p bs np hb => ?_⟩
      obtain ⟨G', n, h3⟩ := tkeys_new sg h2 hb
      have v := VR.newL (T := T) n.sub np h3
      exact k _ _ _ _ ⟨n.trans v.1, v.2⟩ w
    · exact w.elim
  · obtain ⟨x, rfl, h⟩ := hd.one
    obtain ⟨a, vs, rfl, h1, h2⟩ := h.lst sg
    exact call_tuple_of pins s σ H _ us Q I r ⟨a, vs, rfl, .inl ⟨by rw [hK]; exact h1, fun l nl => k _ _ _ _ (VR.newT sg nl h2) w⟩⟩
  · rename_i ds
    obtain ⟨x, rfl, h⟩ := hd.one
    obtain ⟨a, vs, rfl, h1, h2, h3⟩ := h.tup sg
    exact call_tuple_of pins s σ H _ us Q I r ⟨a, vs, rfl, .inr ⟨by rw [hK]; exact h1, k _ _ _ _ (VR.flat (d := .tup ds) sg ⟨a, vs, rfl, h3, h2⟩) w⟩⟩
  · rename_i ds
    obtain ⟨x, rfl, h⟩ := hd.one
    obtain ⟨a, vs, rfl, h1, h2, o, h3⟩ := h.ftp sg
    exact call_tuple_of pins s σ H _ us Q I r ⟨a, vs, rfl, .inr ⟨by rw [hK]; exact h1, k _ _ _ _ (VR.flat (d := .ftp ds) sg ⟨a, o, vs, rfl, h3, h2⟩) w⟩⟩
  · obtain ⟨x, rfl, h⟩ := hd.one
    obtain ⟨a, vs, rfl, h1, h2⟩ := h.lst sg
    exact call_ftuple pins s σ H _ us Q I r ⟨a, vs, rfl, by rw [hK]; exact h1, fun o l hn nl => k _ _ _ _ (VR.newFT sg nl hn h2) w⟩
  · rename_i kvs
    obtain ⟨x, rfl, h⟩ := hd.one
    obtain ⟨a, vs, rfl, h1, h2⟩ := h.dK sg
    refine call_dictD pins s σ H _ us Q I r ⟨a, vs, rfl, h1, fun p np => ?_⟩
    exact k (.own (.dK kvs)) _ _ _ ⟨New.fresh sg np, rfl, p, rfl, np, sg.free np, vs, upd_same, h2⟩ w
  · split at w
    · rename_i ns e
      obtain ⟨x, rfl, h⟩ := hd.one
      obtain ⟨a, vs, rfl, h1, h2⟩ := h.lst sg
      have := ints_at h2 e
      subst this
      exact cr_sum hc pins s σ H _ us Q I r ⟨a, ns, rfl, by rw [hK]; exact h1, k _ _ _ _ (VR.int sg) w⟩
    · exact w.elim
  · split at w
    · rename_i ns e
      obtain ⟨x, rfl, h⟩ := hd.one
      obtain ⟨a, vs, rfl, h1, h2⟩ := h.lst sg
      have := bls_at h2 e
      subst this
      exact cr_all hc pins s σ H _ us Q I r ⟨a, ns, rfl, by rw [hK]; exact h1, k _ _ _ _ (VR.bl sg) w⟩
    · exact w.elim
  · split at w
    · rename_i ns e
      obtain ⟨x, rfl, h⟩ := hd.one
      obtain ⟨a, vs, rfl, h1, h2⟩ := h.lst sg
      have := bls_at h2 e
      subst this
      exact cr_any hc pins s σ H _ us Q I r ⟨a, ns, rfl, by rw [hK]; exact h1, k _ _ _ _ (VR.bl sg) w⟩
    · exact w.elim
  · exact w.elim
/-! ### methods -/
def mthV : Mth → String
  | .get1 => "dict.get" | .get2 => "dict.get" | .index => "" | .join => "str.join" | .values => "dict.values" | .count => "list.count" | .split => "str.split"
end
end Mi
namespace Mi
open PySem PySem.Spec PyProof.Rows L2
/-! ### the reading of an expression -/
abbrev WT := Env → (Res → Env → Prop) → (Xc → Env → Prop) → Prop
/-- an exception in the air -/
def XAt (T : Tx) (G : Hp) (x : Xc) (cls : Value) (d : Option Addr) : Prop := cls = .ref (T.cl x.c) ∧ (x.fs = [] ∨ ∃ dd ws, d = some dd ∧ G dd = some (.xd ws) ∧ DpF T G x.fs ws)
/-- what is wanted of an exception -/
def dX (T : Tx) (W : WX) (ρ : Env) (σ : L2.St) (G H : Hp) (Ep : Xc → Env → Prop) : Prop :=
  ∀ x cls d ρ' G' H', Step (FpE ρ σ H) (FpE ρ' σ H') G H G' H' → Rep T ρ' σ G' H' → XAt T G' x cls d → Ep x ρ' → W cls d σ H'
def dG (T : Tx) (W : WX) (w : WT) : TE := fun σ H Q => ∃ (ρ : Env) (G : Hp) (Qp : Res → Env → Prop) (Ep : Xc → Env → Prop), Rep T ρ σ G H ∧ w ρ Qp Ep ∧
  (∀ r v ρ' G' H', Step (FpE ρ σ H) (FpR ρ' σ r v H') G H G' H' → RepR T ρ' σ r v G' H' → Qp r ρ' → Q v H') ∧ dX T W ρ σ G H Ep
def OpdAt (T : Tx) (G : Hp) (σ : L2.St) (x : Res) (v : V) : Prop := match x with
  | .val d => Dp T G d v
  | .slot i => σ[i]? = some (some v)
  | .own _ => False
/-- an operand -/
def dO (T : Tx) (W : WX) (w : WT) : TE := fun σ H Q => ∃ (ρ : Env) (G : Hp) (Qp : Res → Env → Prop) (Ep : Xc → Env → Prop), Rep T ρ σ G H ∧ w ρ Qp Ep ∧
  (∀ x v ρ' G' H', Step (FpE ρ σ H) (FpE ρ' σ H') G H G' H' → Rep T ρ' σ G' H' → OpdAt T G' σ x v → Qp x ρ' → Q v H') ∧ dX T W ρ σ G H Ep
/-- frozen -/
def dZ (T : Tx) (W : WX) (w : WT) : TE := fun σ H Q => ∃ (ρ : Env) (G : Hp) (Qp : Res → Env → Prop) (Ep : Xc → Env → Prop), Rep T ρ σ G H ∧ w ρ Qp Ep ∧
  (∀ d v ρ' G' H', Step (FpE ρ σ H) (FpE ρ' σ H') G H G' H' → Rep T ρ' σ G' H' → Dp T G' d v → Qp (.val d) ρ' → Q v H') ∧ dX T W ρ σ G H Ep
def opdT (w : WT) : WT := fun ρ Q E => w ρ (fun r ρ1 => opdR r ρ1 Q) E
def frzT (w : WT) : WT := fun ρ Q E => w ρ (fun r ρ1 => frzR r ρ1 Q) E
section
variable {X : Cx} {T : Tx} {W : WX} {ρ ρ' : Env} {σ : L2.St} {G G' H H' : Hp}
theorem pe_weak {e : Expr} {t t' : TE} (h : PE X e t) (k : ∀ σ H Q, t' σ H Q → t σ H Q) : PE X e t' := ⟨fun pins s σ H Q I q => h.run pins s σ H Q I (k σ H Q q)⟩
theorem dX.next {Ep : Xc → Env → Prop} (he : dX T W ρ σ G H Ep) (S : Step (FpE ρ σ H) (FpE ρ' σ H') G H G' H') : dX T W ρ' σ G' H' Ep := fun x cls d ρ2 G2 H2 S2 R2 xa e => he x cls d ρ2 G2 H2 (S.trans S2) R2 xa e
theorem OpdAt.mono {x : Res} {v : V} (e : Same G G') (h : OpdAt T G σ x v) : OpdAt T G' σ x v := by
  cases x with
  | val d => exact Dp.mono e d h
  | slot i => exact h
  | own c => exact h
theorem opd_dq (R : Rep T ρ σ G H) {x : Res} {v : V} (h : OpdAt T G σ x v) : Dq T G H (rdR ρ x) v := by
  cases x with
  | val d => exact .inl h
  | own c => exact h.elim
  | slot i =>
    show Dq T G H (ρ.getD i .non).rd v
    rw [List.getD_eq_getElem?_getD]
    cases e : ρ[i]? with
    | none => exact .inl trivial
    | some sl =>
      cases sl with
      | non => exact .inl trivial
      | val d =>
        obtain ⟨v', h1, h2⟩ := R.val i d e
        rw [show σ[i]? = some (some v) from h] at h1
        cases h1
        exact .inl h2
      | own c =>
        obtain ⟨a, h1, h2⟩ := R.own i c e
        rw [show σ[i]? = some (some v) from h] at h1
        cases h1
        exact .inr ⟨a, c, rfl, rfl, h2⟩
/-- freezing what one owns: the object as it stands, or locked -/
theorem Rep.write {i : Nat} {a : Addr} {c : Cell} {o : HO} (R : Rep T ρ σ G H) (hi : ρ[i]? = some (.own c)) (ha : σ[i]? = some (some (.ref a))) (hz : c.fz = true) : (∀ b, b ≠ a → ∀ j e a', ρ[j]? = some (.own e) → σ[j]? = some (some (.ref a')) → j ≠ i → Fp (upd H a o) a' e b → Fp H a' e b) ∧
    (∀ j e a', ρ[j]? = some (.own e) → σ[j]? = some (some (.ref a')) → j ≠ i → (a' ≠ a ∧ ¬ Fp H a' e a ∧ CellAt T (upd H a o) G a' e ∧ ∀ b, Fp (upd H a o) a' e b → Fp H a' e b)) := by
  have key : ∀ j e a', ρ[j]? = some (.own e) → σ[j]? = some (some (.ref a')) → j ≠ i → (a' ≠ a ∧ ¬ Fp H a' e a ∧ CellAt T (upd H a o) G a' e ∧ ∀ b, Fp (upd H a o) a' e b → Fp H a' e b) := by
    intro j e a' h1 h2 hj
    have nf : ¬ Fp H a' e a := fun f => hj (R.dis j i e c a' a a h1 hi h2 ha f (Fp.self c))
    have na : a' ≠ a := fun z => nf (by rw [z]; exact Fp.self e)
    obtain ⟨a2, h3, h4⟩ := R.own j e h1
    rw [h2] at h3
    cases h3
    refine ⟨na, nf, h4.keep fun b u f q => ?_, fun b f => ?_⟩
    · rw [upd_ne (fun z => nf (by rw [← z]; exact f))]; exact q
    · obtain ⟨o', ho, _⟩ := Fp.there h4 (Fp.self e)
      exact Fp.keep (fun u q => by rw [upd_ne na]; exact q) ⟨o', ho⟩ f
  exact ⟨fun b _ j e a' h1 h2 hj f => (key j e a' h1 h2 hj).2.2.2 b f, key⟩
theorem Rep.freeze {i : Nat} {a : Addr} {c : Cell} {o : HO} (R : Rep T ρ σ G H) (hi : ρ[i]? = some (.own c)) (ha : σ[i]? = some (some (.ref a))) (hz : c.fz = true) (hd : Dp T (upd G a o) c.d (.ref a)) (ht : ∀ xs, H a ≠ some (.tup xs)) :
    Rep T (ρ.set i (.val c.d)) σ (upd G a o) (upd H a o) ∧ Step (FpE ρ σ H) (FpE (ρ.set i (.val c.d)) σ (upd H a o)) G H (upd G a o) (upd H a o) ∧ Same G (upd G a o) := by
  have il : i < ρ.length := (List.getElem?_eq_some_iff.mp hi).1
  have ga : G a = none := R.sep i c a a hi ha (Fp.self c)
  have gs : Same G (upd G a o) := fun b u e => by rw [upd_ne (fun z => by rw [z, ga] at e; cases e)]; exact e
  have key := (R.write (o := o) hi ha hz).2
  have so : ∀ (j : Nat) (e : Cell), (ρ.set i (.val c.d))[j]? = some (.own e) → ρ[j]? = some (.own e) ∧ j ≠ i := fun j e h => by
    by_cases hj : j = i
    · subst hj; rw [List.getElem?_set_self il] at h; cases h
    · rw [List.getElem?_set_ne (Ne.symm hj)] at h; exact ⟨h, hj⟩
  refine ⟨⟨by rw [List.length_set]; exact R.len, fun b u e => ?_, fun j d h => ?_, fun j e h => ?_, fun j e a' b h s f => ?_, fun j k e e' a1 a2 b h1 h2 s1 s2 f1 f2 => ?_⟩, ⟨gs, fun b e n => ?_, fun b u e n => ?_, fun b ⟨j, e, a', h1, h2, h3⟩ => ?_⟩, gs⟩
  · by_cases hb : b = a
    · subst hb; rw [upd_same] at e ⊢; exact e
    · rw [upd_ne hb] at e ⊢; exact R.sub b u e
  · by_cases hj : j = i
    · subst hj
      rw [List.getElem?_set_self il] at h
      cases h
      exact ⟨_, ha, hd⟩
    · rw [List.getElem?_set_ne (Ne.symm hj)] at h
      obtain ⟨v, h1, h2⟩ := R.val j d h
      exact ⟨v, h1, h2.mono gs⟩
  · obtain ⟨h1, hj⟩ := so j e h
    obtain ⟨a', h2, h3⟩ := R.own j e h1
    exact ⟨a', h2, (key j e a' h1 h2 hj).2.2.1.mono gs⟩
  · obtain ⟨h1, hj⟩ := so j e h
    obtain ⟨k1, k2, k3, k4⟩ := key j e a' h1 s hj
    have f' := k4 b f
    rw [upd_ne (fun z => k2 (by rw [← z]; exact f'))]
    exact R.sep j e a' b h1 s f'
  · obtain ⟨g1, hj1⟩ := so j e h1
    obtain ⟨g2, hj2⟩ := so k e' h2
    exact R.dis j k e e' a1 a2 b g1 g2 s1 s2 ((key j e a1 g1 s1 hj1).2.2.2 b f1) ((key k e' a2 g2 s2 hj2).2.2.2 b f2)
  · by_cases hb : b = a
    · subst hb; exact .inl ⟨i, c, b, hi, ha, Fp.self c⟩
    · rw [upd_ne hb] at n; exact absurd e n
  · rw [upd_ne (fun z => n (by rw [z]; exact ⟨i, c, a, hi, ha, Fp.self c⟩))]; exact e
  · obtain ⟨g1, hj⟩ := so j e h1
    exact .inl ⟨j, e, a', g1, h2, (key j e a' g1 h2 hj).2.2.2 b h3⟩
/-- the frozen form of a cell -/
theorem cell_frz {a : Addr} {c : Cell} (hz : c.fz = true) (h : CellAt T H G a c) : ∃ u, H a = some u ∧ Mut (some u) ∧ (∀ xs, u ≠ .tup xs) ∧ ((Dp T (upd G a u) c.d (.ref a) ∨ True) ∧ ∀ ga : G a = none, (∀ od, Dp T (upd G a (.frz od u)) c.d (.ref a)) ∨ Dp T (upd G a u) c.d (.ref a)) := by
  have gs : ∀ o, G a = none → Same G (upd G a o) := fun o ga b u e => by rw [upd_ne (fun z => by rw [z, ga] at e; cases e)]; exact e
  cases c with
  | lst ds => obtain ⟨vs, h1, h2⟩ := h; exact ⟨_, h1, trivial, fun _ z => (by cases z), .inr trivial, fun ga => .inr ⟨a, vs, rfl, SqL.of upd_same, h2.mono (gs _ ga)⟩⟩
  | dK ds => obtain ⟨vs, h1, h2⟩ := h; exact ⟨_, h1, trivial, fun _ z => (by cases z), .inr trivial, fun ga => .inl fun od => ⟨a, od, vs, rfl, upd_same, h2.mono (gs _ ga)⟩⟩
  | dT ds => obtain ⟨vs, h1, h2⟩ := h; exact ⟨_, h1, trivial, fun _ z => (by cases z), .inr trivial, fun ga => .inl fun od => ⟨a, od, vs, rfl, upd_same, h2.mono (gs _ ga)⟩⟩
  | obj k ds => obtain ⟨dx, vs, h1, h0, h2⟩ := h; exact ⟨_, h1, trivial, fun _ z => (by cases z), .inr trivial, fun ga => .inr ⟨a, dx, vs, rfl, upd_same, h0, h2.mono (gs _ ga)⟩⟩
  | draw => cases hz
theorem upd_id {a : Addr} {u : HO} (h : H a = some u) : upd H a u = H := by
  funext b
  by_cases hb : b = a
  · subst hb; rw [upd_same, h]
  · rw [upd_ne hb]
/-- a value may be locked behind it -/
theorem pe_lockv {e : Expr} {t : TE} (h : PE X e t) : PE X e (fun σ H Q => t σ H fun v H1 => Q v H1 ∨ ∃ d u, H1 d = some u ∧ Mut (some u) ∧ ∀ od, Q v (upd H1 d (.frz od u))) := by
  refine ⟨fun pins s σ H Q I q => thn (h.run pins s σ H _ I q) fun w s1 ⟨v, H1, I1, r1, q1⟩ => ?_⟩
  rcases q1 with q1 | ⟨d, u, hd, mu, q1⟩
  · exact ⟨v, H1, I1, r1, q1⟩
  · obtain ⟨od, I2⟩ := I1.lock hd mu
    exact ⟨v, _, I2, r1, q1 od⟩
/-- what a frozen slot leaves: both ways at once -/
theorem frz_go {i : Nat} {c : Cell} {v : V} (R : Rep T ρ σ G H) (hi : ρ[i]? = some (.own c)) (hv : σ[i]? = some (some v)) (hz : c.fz = true) {Q : V → Hp → Prop}
    (k : ∀ G' H', Rep T (ρ.set i (.val c.d)) σ G' H' → Step (FpE ρ σ H) (FpE (ρ.set i (.val c.d)) σ H') G H G' H' → Dp T G' c.d v → Q v H') : Q v H ∨ ∃ d u, H d = some u ∧ Mut (some u) ∧ ∀ od, Q v (upd H d (.frz od u)) := by
  obtain ⟨a, h1, h2⟩ := R.own i c hi
  rw [hv] at h1
  cases h1
  have ga : G a = none := R.sep i c a a hi hv (Fp.self c)
  obtain ⟨u, hu, mu, nt, _, fz⟩ := cell_frz hz h2
  have ht : ∀ xs, H a ≠ some (.tup xs) := fun xs z => by rw [hu] at z; cases z; exact nt xs rfl
  rcases fz ga with fz | fz
  · refine .inr ⟨a, u, hu, mu, fun od => ?_⟩
    obtain ⟨R', S', _⟩ := R.freeze hi hv hz (fz od) ht
    exact k _ _ R' S' (fz od)
  · obtain ⟨R', S', _⟩ := R.freeze (o := u) hi hv hz fz ht
    rw [upd_id hu] at R' S'
    exact .inl (k _ _ R' S' fz)
theorem set_last {α : Type} {l : List α} {x y : α} : (l ++ [x]).set l.length y = l ++ [y] := by simp
/-- .. of a fresh thing -/
theorem frz_fresh {c : Cell} {v : V} (R : Rep T (ρ ++ [.own c]) (σ ++ [some v]) G H) (hz : c.fz = true) {Q : V → Hp → Prop} {P : Addr → Prop} {G0 H0 : Hp} (S0 : Step P (FpE (ρ ++ [.own c]) (σ ++ [some v]) H) G0 H0 G H)
    (k : ∀ G' H', Rep T ρ σ G' H' → Step P (FpE ρ σ H') G0 H0 G' H' → Dp T G' c.d v → Q v H') : Q v H ∨ ∃ d u, H d = some u ∧ Mut (some u) ∧ ∀ od, Q v (upd H d (.frz od u)) := by
  have hl : ρ.length = σ.length := by simpa using R.len
  refine frz_go (i := ρ.length) R get_last (by rw [hl]; exact get_last) hz fun G' H' R' S' d' => ?_
  rw [set_last] at R' S'
  exact k G' H' R'.init ((S0.trans S').weak fun b h => fpE_init hl h) d'
theorem pe_opd {e : Expr} {w : WT} (h : PE X e (dG T W w)) : PE X e (dO T W (opdT w)) := by
  refine pe_weak (pe_lockv h) fun σ H Q ⟨ρ, G, Qp, Ep, R, hw, hq, he⟩ => ?_
  refine ⟨ρ, G, _, Ep, R, hw, fun r v ρ1 G1 H1 S1 R1 q1 => ?_, he⟩
  cases r with
  | val d => exact .inl (hq (.val d) v ρ1 G1 H1 S1 R1.1 R1.2 q1)
  | slot i => exact .inl (hq (.slot i) v ρ1 G1 H1 S1 R1.1 R1.2 q1)
  | own c => exact frz_fresh R1.2 q1.1 S1 fun G' H' R' S' d' => hq (.val c.d) v ρ1 G' H' S' R' d' q1.2
theorem pe_frz {e : Expr} {w : WT} (h : PE X e (dG T W w)) : PE X e (dZ T W (frzT w)) := by
  refine pe_weak (pe_lockv h) fun σ H Q ⟨ρ, G, Qp, Ep, R, hw, hq, he⟩ => ?_
  refine ⟨ρ, G, _, Ep, R, hw, fun r v ρ1 G1 H1 S1 R1 q1 => ?_, he⟩
  cases r with
  | val d => exact .inl (hq d v ρ1 G1 H1 S1 R1.1 R1.2 q1)
  | own c => exact frz_fresh R1.2 q1.1 S1 fun G' H' R' S' d' => hq c.d v ρ1 G' H' S' R' d' q1.2
  | slot i =>
    have q2 : (match ρ1[i]? with | some (.own c) => c.fz = true ∧ Qp (.val c.d) (ρ1.set i (.val c.d)) | _ => False) := q1
    split at q2
    · rename_i c e
      exact frz_go R1.1 e R1.2 q2.1 fun G' H' R' S' d' => hq c.d v _ G' H' (S1.trans S') R' d' q2.2
    · exact q2.elim
theorem pe_zg {e : Expr} {w : WT} (h : PE X e (dZ T W (frzT w))) : PE X e (dG T W (frzT w)) :=
  pe_weak h fun σ H Q ⟨ρ, G, Qp, Ep, R, hw, hq, he⟩ => ⟨ρ, G, Qp, Ep, R, hw, fun d v ρ1 G1 H1 S1 R1 d1 q1 => hq (.val d) v ρ1 G1 H1 S1 ⟨R1, d1⟩ q1, he⟩
end
end Mi
namespace Mi
open PySem PySem.Spec PyProof.Rows L2
section
variable {X : Cx} {T : Tx} {W : WX} {Γ : Nat → FS}
abbrev SE (X : Cx) (T : Tx) (W : WX) (Γ : Nat → FS) (e : Expr) (ir : IE) : Prop := PE X e (dG T W (wp Γ ir))
theorem step_id {ρ : Env} {σ : L2.St} {G H : Hp} {v : V} : Step (FpE ρ σ H) (FpE ρ σ H) G H G H := Step.refl fun _ h => h
theorem se_var {i : Nat} {x : Str} {pos : Pos} (hN : X.N[i]? = some x) (hv : Vis X.env.scope x) (hd : (x == ("__debug__" : Str)) = false) (hcd : (x == ("__classdict__" : Str)) = false) : SE X T W Γ (.Name x pos) (.var i) := by
  refine pe_weak (pe_var hN hv hd hcd) fun σ H Q ⟨ρ, G, Qp, Ep, R, w, hq, he⟩ => ?_
  have w2 : (match ρ[i]? with | some (.val d) => Qp (.val d) ρ | some (.own _) => Qp (.slot i) ρ | _ => False) := w
  split at w2
  · rename_i d e
    obtain ⟨v, h1, h2⟩ := R.val i d e
    exact ⟨v, h1, hq (.val d) v ρ G H (Step.refl fun _ h => h) ⟨R, h2⟩ w2⟩
  · rename_i c e
    obtain ⟨a, h1, h2⟩ := R.own i c e
    exact ⟨_, h1, hq (.slot i) _ ρ G H (Step.refl fun _ h => h) ⟨R, h1⟩ w2⟩
  · exact w2.elim
/-- a constant -/
theorem se_con {e : Expr} {d : D} {v : V} (h : PE X e (tC v)) (hd : ∀ G, Dp T G d v) : SE X T W Γ e (.con d) := by
  refine pe_weak h fun σ H Q ⟨ρ, G, Qp, Ep, R, w, hq, he⟩ => ?_
  exact hq (.val d) v ρ G H (Step.refl fun _ h => h) ⟨R, hd G⟩ w
theorem se_frz {e : Expr} {ir : IE} (h : SE X T W Γ e ir) : SE X T W Γ e (.frz ir) := pe_weak (pe_zg (pe_frz h)) fun _ _ _ q => q
theorem se_bin {a b : Expr} {op : Operator} {ia ib : IE} {pos : Pos} (hK : X.K = T.K) (ha : SE X T W Γ a ia) (hb : SE X T W Γ b ib) : SE X T W Γ (.BinOp a op b pos) (.bin op ia ib) := by
  refine pe_weak (pe_op (op_bin hK op) (pe_opd ha) (pe_opd hb)) fun σ H Q ⟨ρ, G, Qp, Ep, R, w, hq, he⟩ => ?_
  refine ⟨ρ, G, _, Ep, R, w, fun x v ρ1 G1 H1 S1 R1 o1 q1 => ?_, he⟩
  refine ⟨ρ1, G1, _, Ep, R1, q1, fun y u ρ2 G2 H2 S2 R2 o2 q2 => ?_, he.next S1⟩
  refine ⟨G2, _, _, _, R2.sub, opd_dq R2 (o1.mono S2.gs), opd_dq R2 o2, q2, fun r z G3 H3 vr q3 => ?_⟩
  obtain ⟨R3, S3⟩ := R2.vr vr
  exact hq r z ρ2 G3 H3 ((S1.trans S2).trans S3) R3 q3
theorem se_neg {a : Expr} {ia : IE} {pos : Pos} (ha : SE X T W Γ a ia) : SE X T W Γ (.UnaryOp .USub a pos) (.neg ia) := by
  refine pe_weak (pe_un un_neg (pe_opd ha)) fun σ H Q ⟨ρ, G, Qp, Ep, R, w, hq, he⟩ => ?_
  refine ⟨ρ, G, _, Ep, R, w, fun x v ρ1 G1 H1 S1 R1 o1 q1 => ?_, he⟩
  have q2 : (match rdR ρ1 x with | .int i => Qp (.val (.int (-i))) ρ1 | _ => False) := q1
  have dq := opd_dq R1 o1
  split at q2
  · rename_i i e
    rw [e] at dq
    cases dq.int
    exact ⟨i, rfl, hq (.val (.int (-i))) _ ρ1 G1 H1 S1 ⟨R1, rfl⟩ q2⟩
  · exact q2.elim
theorem se_cmp {a b : Expr} {op : CmpOp} {ia ib : IE} {pos : Pos} (hK : X.K = T.K) (hu : X.A.units + 65 < cLine) (ha : SE X T W Γ a ia) (hb : SE X T W Γ b ib) (hm : behindInMarks op b = false) : SE X T W Γ (.Compare a [op] [b] pos) (.cmp op ia ib) := by
  refine pe_weak (pe_cmpR (op_cmp hK hu op) (pe_opd ha) (pe_opd hb) hm) fun σ H Q ⟨ρ, G, Qp, Ep, R, w, hq, he⟩ => ?_
  refine ⟨ρ, G, _, Ep, R, w, fun x v ρ1 G1 H1 S1 R1 o1 q1 => ?_, he⟩
  refine ⟨ρ1, G1, _, Ep, R1, q1, fun y u ρ2 G2 H2 S2 R2 o2 q2 => ?_, he.next S1⟩
  exact ⟨G2, _, _, _, R2.sub, opd_dq R2 (o1.mono S2.gs), opd_dq R2 o2, q2, fun k q3 => hq (.val (.bl k)) _ ρ2 G2 H2 (S1.trans S2) ⟨R2, rfl⟩ q3⟩
theorem se_chn {a b c : Expr} {op op2 : CmpOp} {ia ib ic : IE} {pos : Pos} (hK : X.K = T.K) (hu : X.A.units + 65 < cLine) (ha : SE X T W Γ a ia) (hb : SE X T W Γ b ib) (hc : SE X T W Γ c ic) (hm : behindInMarks op2 c = false) : SE X T W Γ (.Compare a [op, op2] [b, c] pos) (.chn op op2 ia ib ic) := by
  refine pe_weak (pe_chain (op_cmp hK hu op) (op_cmp hK hu op2) (pe_opd ha) (pe_opd hb) (pe_opd hc) hm) fun σ H Q ⟨ρ, G, Qp, Ep, R, w, hq, he⟩ => ?_
  refine ⟨ρ, G, _, Ep, R, w, fun x v ρ1 G1 H1 S1 R1 o1 q1 => ?_, he⟩
  refine ⟨ρ1, G1, _, Ep, R1, q1, fun y u ρ2 G2 H2 S2 R2 o2 q2 => ?_, he.next S1⟩
  refine ⟨G2, _, _, _, R2.sub, opd_dq R2 (o1.mono S2.gs), opd_dq R2 o2, q2, fun k q3 => ⟨k, rfl, ?_⟩⟩
  cases k with
  | true =>
    refine iteT ⟨ρ2, G2, _, Ep, R2, q3, fun z t ρ3 G3 H3 S3 R3 o3 q4 => ?_, he.next (S1.trans S2)⟩
    exact ⟨G3, _, _, _, R3.sub, opd_dq R3 (o2.mono S3.gs), opd_dq R3 o3, q4, fun k q5 => hq (.val (.bl k)) _ ρ3 G3 H3 ((S1.trans S2).trans S3) ⟨R3, rfl⟩ q5⟩
  | false => exact iteF (hq (.val (.bl false)) _ ρ2 G2 H2 (S1.trans S2) ⟨R2, rfl⟩ q3)
/-! ### truth -/
abbrev WB := Env → (Bool → Env → Prop) → (Xc → Env → Prop) → Prop
def truT (w : WT) : WB := fun ρ Q E => w ρ (fun r ρ1 => opdR r ρ1 fun x ρ2 => truW (rdR ρ2 x) fun b => Q b ρ2) E
def dT (T : Tx) (W : WX) (w : WB) : TT := fun σ H Q => ∃ (ρ : Env) (G : Hp) (Qp : Bool → Env → Prop) (Ep : Xc → Env → Prop), Rep T ρ σ G H ∧ w ρ Qp Ep ∧
  (∀ b ρ' G' H', Step (FpE ρ σ H) (FpE ρ' σ H') G H G' H' → Rep T ρ' σ G' H' → Qp b ρ' → Q b H') ∧ dX T W ρ σ G H Ep
abbrev ST (X : Cx) (T : Tx) (W : WX) (Γ : Nat → FS) (e : Expr) (ir : IE) : Prop := PT X e (dT T W (truT (wp Γ ir)))
theorem pt_weak {e : Expr} {t t' : TT} (h : PT X e t) (k : ∀ σ H Q, t' σ H Q → t σ H Q) : PT X e t' := ⟨fun pins s σ H Q I q => h.run pins s σ H Q I (k σ H Q q)⟩
theorem pw_weak {e : Expr} {t t' : TT} (h : PW X e t) (k : ∀ σ H Q, t' σ H Q → t σ H Q) : PW X e t' := ⟨fun wh pins s σ H Q I q => h.run wh pins s σ H Q I (k σ H Q q)⟩
/-- an expression's truth: it is True or False -/
theorem tru_of {w : WT} {σ : L2.St} {H : Hp} {Q : Bool → Hp → Prop} (h : dT T W (truT w) σ H Q) : dO T W (opdT w) σ H fun x H1 => ∃ c, x = .bl c ∧ Q c H1 := by
  obtain ⟨ρ, G, Qp, Ep, R, hw, hq, he⟩ := h
  refine ⟨ρ, G, _, Ep, R, hw, fun x v ρ1 G1 H1 S1 R1 o1 q1 => ?_, he⟩
  have dq := opd_dq R1 o1
  have q2 : truW (rdR ρ1 x) fun b => Qp b ρ1 := q1
  unfold truW at q2
  split at q2
  · rename_i b e
    rw [e] at dq
    cases dq.bl
    exact ⟨b, rfl, hq b ρ1 G1 H1 S1 R1 q2⟩
  · exact q2.elim
theorem st_val {e : Expr} {ir : IE} (h : SE X T W Γ e ir) (he : ∀ whole, isTrue e X.env whole = (do let v ← whole; standAt e.pos; holding [v] (truthy v))) : ST X T W Γ e ir :=
  pt_weak (pt_val (pe_opd h) he) fun _ _ _ q => tru_of q
theorem st_cmp {a b : Expr} {op : CmpOp} {ia ib : IE} {pos : Pos} (hK : X.K = T.K) (hu : X.A.units + 65 < cLine) (ha : SE X T W Γ a ia) (hb : SE X T W Γ b ib) (hm : behindInMarks op b = false) : ST X T W Γ (.Compare a [op] [b] pos) (.cmp op ia ib) := by
  refine pt_weak (pt_cmpR (op_cmp hK hu op) (pe_opd ha) (pe_opd hb) hm) fun σ H Q ⟨ρ, G, Qp, Ep, R, w, hq, he⟩ => ?_
  refine ⟨ρ, G, _, Ep, R, w, fun x v ρ1 G1 H1 S1 R1 o1 q1 => ?_, he⟩
  refine ⟨ρ1, G1, _, Ep, R1, q1, fun y u ρ2 G2 H2 S2 R2 o2 q2 => ?_, he.next S1⟩
  exact ⟨G2, _, _, _, R2.sub, opd_dq R2 (o1.mono S2.gs), opd_dq R2 o2, q2, fun k q3 => ⟨k, rfl, hq k ρ2 G2 H2 (S1.trans S2) R2 q3⟩⟩
theorem st_chn {a b c : Expr} {op op2 : CmpOp} {ia ib ic : IE} {pos : Pos} (hK : X.K = T.K) (hu : X.A.units + 65 < cLine) (ha : SE X T W Γ a ia) (hb : SE X T W Γ b ib) (hc : SE X T W Γ c ic) (hm : behindInMarks op2 c = false) : ST X T W Γ (.Compare a [op, op2] [b, c] pos) (.chn op op2 ia ib ic) := by
  refine pt_weak (pt_chain (op_cmp hK hu op) (op_cmp hK hu op2) (pe_opd ha) (pe_opd hb) (pe_opd hc) hm) fun σ H Q ⟨ρ, G, Qp, Ep, R, w, hq, he⟩ => ?_
  refine ⟨ρ, G, _, Ep, R, w, fun x v ρ1 G1 H1 S1 R1 o1 q1 => ?_, he⟩
  refine ⟨ρ1, G1, _, Ep, R1, q1, fun y u ρ2 G2 H2 S2 R2 o2 q2 => ?_, he.next S1⟩
  refine ⟨G2, _, _, _, R2.sub, opd_dq R2 (o1.mono S2.gs), opd_dq R2 o2, q2, fun k q3 => ⟨k, rfl, ?_⟩⟩
  cases k with
  | true =>
    refine iteT ⟨ρ2, G2, _, Ep, R2, q3, fun z t ρ3 G3 H3 S3 R3 o3 q4 => ?_, he.next (S1.trans S2)⟩
    exact ⟨G3, _, _, _, R3.sub, opd_dq R3 (o2.mono S3.gs), opd_dq R3 o3, q4, fun k q5 => ⟨k, rfl, hq k ρ3 G3 H3 ((S1.trans S2).trans S3) R3 q5⟩⟩
  | false => exact iteF ⟨false, rfl, hq false ρ2 G2 H2 (S1.trans S2) R2 q3⟩
theorem st_not {a : Expr} {ia : IE} {pos : Pos} (ha : ST X T W Γ a ia) : ST X T W Γ (.UnaryOp .Not a pos) (.not ia) := by
  refine pt_weak (pt_not ha) fun σ H Q ⟨ρ, G, Qp, Ep, R, w, hq, he⟩ => ?_
  exact ⟨ρ, G, fun b ρ' => Qp (!b) ρ', Ep, R, w, fun b ρ1 G1 H1 S1 R1 q1 => hq (!b) ρ1 G1 H1 S1 R1 q1, he⟩
abbrev SW (X : Cx) (T : Tx) (W : WX) (Γ : Nat → FS) (e : Expr) (ir : IE) : Prop := PW X e (dT T W (truT (wp Γ ir)))
theorem sw_and1 {a : Expr} {ia : IE} {pos : Pos} (ha : ST X T W Γ a ia) : SW X T W Γ (.BoolOp .And [a] pos) ia := pw_and1 ha
theorem sw_or1 {a : Expr} {ia : IE} {pos : Pos} (ha : ST X T W Γ a ia) : SW X T W Γ (.BoolOp .Or [a] pos) ia := pw_or1 ha
theorem sw_and {a b : Expr} {rest : List Expr} {ia ib : IE} {pos : Pos} (ha : ST X T W Γ a ia) (hb : SW X T W Γ (.BoolOp .And (b :: rest) pos) ib) : SW X T W Γ (.BoolOp .And (a :: b :: rest) pos) (.and ia ib) := by
  refine pw_weak (pw_and ha hb) fun σ H Q ⟨ρ, G, Qp, Ep, R, w, hq, he⟩ => ?_
  refine ⟨ρ, G, _, Ep, R, w, fun c ρ1 G1 H1 S1 R1 q1 => ?_, he⟩
  cases c with
  | true => exact iteT ⟨ρ1, G1, Qp, Ep, R1, q1, fun b ρ2 G2 H2 S2 R2 q2 => hq b ρ2 G2 H2 (S1.trans S2) R2 q2, he.next S1⟩
  | false => exact iteF (hq false ρ1 G1 H1 S1 R1 q1)
theorem sw_or {a b : Expr} {rest : List Expr} {ia ib : IE} {pos : Pos} (ha : ST X T W Γ a ia) (hb : SW X T W Γ (.BoolOp .Or (b :: rest) pos) ib) : SW X T W Γ (.BoolOp .Or (a :: b :: rest) pos) (.or ia ib) := by
  refine pw_weak (pw_or ha hb) fun σ H Q ⟨ρ, G, Qp, Ep, R, w, hq, he⟩ => ?_
  refine ⟨ρ, G, _, Ep, R, w, fun c ρ1 G1 H1 S1 R1 q1 => ?_, he⟩
  cases c with
  | true => exact iteT (hq true ρ1 G1 H1 S1 R1 q1)
  | false => exact iteF ⟨ρ1, G1, Qp, Ep, R1, q1, fun b ρ2 G2 H2 S2 R2 q2 => hq b ρ2 G2 H2 (S1.trans S2) R2 q2, he.next S1⟩
/-! .. as values -/
theorem se_one {op : BoolOp} {a : Expr} {ia : IE} {pos : Pos} (ha : SE X T W Γ a ia) : SE X T W Γ (.BoolOp op [a] pos) ia := pe_one ha
theorem se_and {a b : Expr} {rest : List Expr} {ia ib : IE} {pos : Pos} (ha : SE X T W Γ a ia) (hb : SE X T W Γ (.BoolOp .And (b :: rest) pos) ib) : SE X T W Γ (.BoolOp .And (a :: b :: rest) pos) (.and ia ib) := by
  refine pe_weak (pe_and (pe_opd ha) hb) fun σ H Q ⟨ρ, G, Qp, Ep, R, w, hq, he⟩ => ?_
  refine ⟨ρ, G, _, Ep, R, w, fun x v ρ1 G1 H1 S1 R1 o1 q1 => ?_, he⟩
  have dq := opd_dq R1 o1
  have q2 : truW (rdR ρ1 x) fun c => if c = true then wp Γ ib ρ1 Qp Ep else Qp (.val (.bl false)) ρ1 := q1
  unfold truW at q2
  split at q2
  · rename_i c e
    rw [e] at dq
    cases dq.bl
    refine ⟨c, rfl, ?_⟩
    cases c with
    | true => exact iteT ⟨ρ1, G1, Qp, Ep, R1, q2, fun r z ρ2 G2 H2 S2 R2 q3 => hq r z ρ2 G2 H2 (S1.trans S2) R2 q3, he.next S1⟩
    | false => exact iteF (hq (.val (.bl false)) _ ρ1 G1 H1 S1 ⟨R1, rfl⟩ q2)
  · exact q2.elim
theorem se_or {a b : Expr} {rest : List Expr} {ia ib : IE} {pos : Pos} (ha : SE X T W Γ a ia) (hb : SE X T W Γ (.BoolOp .Or (b :: rest) pos) ib) : SE X T W Γ (.BoolOp .Or (a :: b :: rest) pos) (.or ia ib) := by
  refine pe_weak (pe_or (pe_opd ha) hb) fun σ H Q ⟨ρ, G, Qp, Ep, R, w, hq, he⟩ => ?_
  refine ⟨ρ, G, _, Ep, R, w, fun x v ρ1 G1 H1 S1 R1 o1 q1 => ?_, he⟩
  have dq := opd_dq R1 o1
  have q2 : truW (rdR ρ1 x) fun c => if c = true then Qp (.val (.bl true)) ρ1 else wp Γ ib ρ1 Qp Ep := q1
  unfold truW at q2
  split at q2
  · rename_i c e
    rw [e] at dq
    cases dq.bl
    refine ⟨c, rfl, ?_⟩
    cases c with
    | true => exact iteT (hq (.val (.bl true)) _ ρ1 G1 H1 S1 ⟨R1, rfl⟩ q2)
    | false => exact iteF ⟨ρ1, G1, Qp, Ep, R1, q2, fun r z ρ2 G2 H2 S2 R2 q3 => hq r z ρ2 G2 H2 (S1.trans S2) R2 q3, he.next S1⟩
  · exact q2.elim
theorem se_not {a : Expr} {ia : IE} {pos : Pos} (ha : SE X T W Γ a ia) : SE X T W Γ (.UnaryOp .Not a pos) (.not ia) := by
  refine pe_weak (pe_not (pe_opd ha)) fun σ H Q ⟨ρ, G, Qp, Ep, R, w, hq, he⟩ => ?_
  refine ⟨ρ, G, _, Ep, R, w, fun x v ρ1 G1 H1 S1 R1 o1 q1 => ?_, he⟩
  have dq := opd_dq R1 o1
  have q2 : truW (rdR ρ1 x) fun c => Qp (.val (.bl (!c))) ρ1 := q1
  unfold truW at q2
  split at q2
  · rename_i c e
    rw [e] at dq
    cases dq.bl
    exact ⟨c, rfl, hq (.val (.bl (!c))) _ ρ1 G1 H1 S1 ⟨R1, rfl⟩ q2⟩
  · exact q2.elim
theorem se_ifx {c a b : Expr} {ic ia ib : IE} {pos : Pos} (hc : ST X T W Γ c ic) (ha : SE X T W Γ a ia) (hb : SE X T W Γ b ib) : SE X T W Γ (.IfExp c a b pos) (.ifx ic ia ib) := by
  refine pe_weak (pe_ifExp hc ha hb) fun σ H Q ⟨ρ, G, Qp, Ep, R, w, hq, he⟩ => ?_
  refine ⟨ρ, G, fun k ρ1 => if k = true then wp Γ ia ρ1 Qp Ep else wp Γ ib ρ1 Qp Ep, Ep, R, w, fun k ρ1 G1 H1 S1 R1 q1 => ?_, he⟩
  cases k with
  | true => exact iteT ⟨ρ1, G1, Qp, Ep, R1, q1, fun r z ρ2 G2 H2 S2 R2 q3 => hq r z ρ2 G2 H2 (S1.trans S2) R2 q3, he.next S1⟩
  | false => exact iteF ⟨ρ1, G1, Qp, Ep, R1, q1, fun r z ρ2 G2 H2 S2 R2 q3 => hq r z ρ2 G2 H2 (S1.trans S2) R2 q3, he.next S1⟩
/-! ### arguments -/
abbrev WL := Env → (List Res → Env → Prop) → (Xc → Env → Prop) → Prop
inductive OpdsAt (T : Tx) (G : Hp) (σ : L2.St) : List Res → List V → Prop
  | nil : OpdsAt T G σ [] []
  | cons {x : Res} {xs : List Res} {v : V} {vs : List V} : OpdAt T G σ x v → OpdsAt T G σ xs vs → OpdsAt T G σ (x :: xs) (v :: vs)
def dA (T : Tx) (W : WX) (w : WL) : TA := fun σ H Q => ∃ (ρ : Env) (G : Hp) (Qp : List Res → Env → Prop) (Ep : Xc → Env → Prop), Rep T ρ σ G H ∧ w ρ Qp Ep ∧
  (∀ rs vs ρ' G' H', Step (FpE ρ σ H) (FpE ρ' σ H') G H G' H' → Rep T ρ' σ G' H' → OpdsAt T G' σ rs vs → Qp rs ρ' → Q vs H') ∧ dX T W ρ σ G H Ep
theorem pa_weak {es : List Expr} {t t' : TA} (h : PA X es t) (k : ∀ σ H Q, t' σ H Q → t σ H Q) : PA X es t' := ⟨fun pos pins s σ H Q I q => h.run pos pins s σ H Q I (k σ H Q q)⟩
abbrev SA (X : Cx) (T : Tx) (W : WX) (Γ : Nat → FS) (es : List Expr) (irs : List IE) : Prop := PA X es (dA T W (wpL Γ irs))
theorem sa_nil : SA X T W Γ [] [] := by
  refine pa_weak pa_nil fun σ H Q ⟨ρ, G, Qp, Ep, R, w, hq, he⟩ => ?_
  exact hq [] [] ρ G H (Step.refl fun _ h => h) R .nil w
theorem sa_cons {e : Expr} {es : List Expr} {ir : IE} {irs : List IE} (h : SE X T W Γ e ir) (hs : SA X T W Γ es irs) (hst : starEach (e :: es) X.env = (false, eval e X.env) :: starEach es X.env) : SA X T W Γ (e :: es) (ir :: irs) := by
  refine pa_weak (pa_cons (pe_opd h) hs hst) fun σ H Q ⟨ρ, G, Qp, Ep, R, w, hq, he⟩ => ?_
  refine ⟨ρ, G, _, Ep, R, w, fun x v ρ1 G1 H1 S1 R1 o1 q1 => ?_, he⟩
  exact ⟨ρ1, G1, _, Ep, R1, q1, fun rs vs ρ2 G2 H2 S2 R2 o2 q2 => hq (x :: rs) (v :: vs) ρ2 G2 H2 (S1.trans S2) R2 (.cons (o1.mono S2.gs) o2) q2, he.next S1⟩
theorem opds_dq {ρ : Env} {σ : L2.St} {G H : Hp} (R : Rep T ρ σ G H) : ∀ {rs : List Res} {vs : List V}, OpdsAt T G σ rs vs → Dqs T G H (rs.map (rdR ρ)) vs
  | _, _, .nil => .nil
  | _, _, .cons h t => .cons (opd_dq R h) (opds_dq R t)
/-- arguments that stand frozen -/
theorem se_blt {b : Blt} {x : Str} {e : Expr} {es : List Expr} {ir : IE} {irs : List IE} {t : TA → TE} {pos : Pos} {p : Pos} (hp : ∀ {ta : TA}, PA X (e :: es) ta → PE X (.Call (.Name x p) (e :: es) [] pos) (tCB (rCall T (bltW b)) ta)) (ha : SA X T W Γ (e :: es) (ir :: irs)) :
    SE X T W Γ (.Call (.Name x p) (e :: es) [] pos) (.blt b (ir :: irs)) := by
  refine pe_weak (hp ha) fun σ H Q ⟨ρ, G, Qp, Ep, R, w, hq, he⟩ => ?_
  refine ⟨ρ, G, _, Ep, R, w, fun rs vs ρ1 G1 H1 S1 R1 o1 q1 => ?_, he⟩
  refine ⟨G1, _, _, R1.sub, opds_dq R1 o1, q1, fun r z G2 H2 vr q2 => ?_⟩
  obtain ⟨R3, S3⟩ := R1.vr vr
  exact hq r z ρ1 G2 H2 (S1.trans S3) R3 q2
/-- each item frozen for a display -/
def frzs : List IE → Prop
  | [] => True
  | e :: es => (∃ a, e = .frz a) ∧ frzs es
end
end Mi
namespace Mi
open PySem PySem.Spec PyProof.Rows L2
section
variable {X : Cx} {T : Tx} {W : WX} {Γ : Nat → FS} {ρ : Env} {σ : L2.St} {G H : Hp}
/-! ### displays -/
theorem vals_dps : ∀ {rs : List Res} {vs : List V}, rs.all Res.isVal = true → OpdsAt T G σ rs vs → Dps T G (rs.map (rdR ρ)) vs
  | _, _, _, .nil => rfl
  | x :: _, _, h, .cons h1 h2 => by
    simp only [List.all_cons, Bool.and_eq_true] at h
    cases x with
    | val d => exact ⟨_, _, rfl, h1, vals_dps h.2 h2⟩
    | _ => cases h.1
theorem opds_len : ∀ {rs : List Res} {vs : List V}, OpdsAt T G σ rs vs → vs.length = rs.length
  | _, _, .nil => rfl
  | _, _, .cons _ h2 => by simp [opds_len h2]
theorem se_tup {es : List Expr} {irs : List IE} {k : Nat} {pos : Pos} (ha : SA X T W Γ es irs) : SE X T W Γ (.Tuple es k pos) (.tup irs) := by
  refine pe_weak (pe_tup ha) fun σ H Q ⟨ρ, G, Qp, Ep, R, w, hq, he⟩ => ?_
  refine ⟨ρ, G, _, Ep, R, w, fun rs vs ρ1 G1 H1 S1 R1 o1 q1 => ?_, he⟩
  refine ⟨by rw [opds_len o1, ← big_eq]; exact q1.1.2, fun p np => ?_⟩
  obtain ⟨R3, S3⟩ := R1.vr (VR.newT R1.sub np (vals_dps (ρ := ρ1) q1.1.1 o1))
  exact hq _ _ ρ1 _ _ (S1.trans S3) R3 q1.2
theorem se_lst {es : List Expr} {irs : List IE} {pos : Pos} (ha : SA X T W Γ es irs) : SE X T W Γ (.List es pos) (.lst irs) := by
  refine pe_weak (pe_lst ha) fun σ H Q ⟨ρ, G, Qp, Ep, R, w, hq, he⟩ => ?_
  refine ⟨ρ, G, _, Ep, R, w, fun rs vs ρ1 G1 H1 S1 R1 o1 q1 => ?_, he⟩
  refine ⟨by rw [opds_len o1, ← big_eq]; exact q1.1.2, fun p np => ?_⟩
  obtain ⟨R3, S3⟩ := R1.vr (VR.newL R1.sub np (vals_dps (ρ := ρ1) q1.1.1 o1))
  exact hq _ _ ρ1 _ _ (S1.trans S3) R3 q1.2
/-! ### subscripts, slices -/
theorem se_sub {a b : Expr} {ia ib : IE} {pos : Pos} (hK : X.K = T.K) (hu : X.A.units + 65 < cLine) (ha : SE X T W Γ a ia) (hb : SE X T W Γ b ib) (hs : PlainIx b) : SE X T W Γ (.Subscript a b pos) (.sub ia ib) := by
  refine pe_weak (pe_ix (ix_sub hK hu) (pe_opd ha) (pe_opd hb) hs) fun σ H Q ⟨ρ, G, Qp, Ep, R, w, hq, he⟩ => ?_
  refine ⟨ρ, G, _, Ep, R, w, fun x v ρ1 G1 H1 S1 R1 o1 q1 => ?_, he⟩
  refine ⟨ρ1, G1, _, Ep, R1, q1, fun y u ρ2 G2 H2 S2 R2 o2 q2 => ?_, he.next S1⟩
  exact ⟨G2, _, _, _, R2.sub, opd_dq R2 (o1.mono S2.gs), opd_dq R2 o2, q2, fun d z dz q3 => hq (.val d) z ρ2 G2 H2 (S1.trans S2) ⟨R2, dz⟩ q3⟩
abbrev WO := Env → (Option Int → Env → Prop) → (Xc → Env → Prop) → Prop
def dP (T : Tx) (W : WX) (w : WO) : TO := fun σ H Q => ∃ (ρ : Env) (G : Hp) (Qp : Option Int → Env → Prop) (Ep : Xc → Env → Prop), Rep T ρ σ G H ∧ w ρ Qp Ep ∧
  (∀ o ρ' G' H', Step (FpE ρ σ H) (FpE ρ' σ H') G H G' H' → Rep T ρ' σ G' H' → Qp o ρ' → Q o H') ∧ dX T W ρ σ G H Ep
theorem po_weak {e : Option Expr} {t t' : TO} (h : PO X e t) (k : ∀ σ H Q, t' σ H Q → t σ H Q) : PO X e t' := ⟨fun pins s σ H Q I q => h.run pins s σ H Q I (k σ H Q q)⟩
abbrev SO (X : Cx) (T : Tx) (W : WX) (Γ : Nat → FS) (e : Option Expr) (ir : Option IE) : Prop := PO X e (dP T W (wpO Γ ir))
theorem so_none : SO X T W Γ none none := by
  refine po_weak po_none fun σ H Q ⟨ρ, G, Qp, Ep, R, w, hq, he⟩ => ?_
  exact hq none ρ G H (Step.refl fun _ h => h) R w
theorem so_some {e : Expr} {ir : IE} (h : SE X T W Γ e ir) : SO X T W Γ (some e) (some ir) := by
  refine po_weak (po_some (pe_opd h)) fun σ H Q ⟨ρ, G, Qp, Ep, R, w, hq, he⟩ => ?_
  refine ⟨ρ, G, _, Ep, R, w, fun x v ρ1 G1 H1 S1 R1 o1 q1 => ?_, he⟩
  have dq := opd_dq R1 o1
  have q2 : (match rdR ρ1 x with | .int i => Qp (some i) ρ1 | _ => False) := q1
  split at q2
  · rename_i i e
    rw [e] at dq
    cases dq.int
    exact ⟨i, rfl, hq (some i) ρ1 G1 H1 S1 R1 q2⟩
  · exact q2.elim
theorem se_slc {e : Expr} {lo hi : Option Expr} {ie : IE} {il ih : Option IE} {p2 pos : Pos} (hK : X.K = T.K) (he : SE X T W Γ e ie) (hl : SO X T W Γ lo il) (hh : SO X T W Γ hi ih) : SE X T W Γ (.Subscript e (.Slice lo hi none p2) pos) (.slc ie il ih) := by
  refine pe_weak (pe_slice (sl_slc hK) (pe_opd he) hl hh) fun σ H Q ⟨ρ, G, Qp, Ep, R, w, hq, hx⟩ => ?_
  refine ⟨ρ, G, _, Ep, R, w, fun x v ρ1 G1 H1 S1 R1 o1 q1 => ?_, hx⟩
  refine ⟨ρ1, G1, _, Ep, R1, q1, fun l ρ2 G2 H2 S2 R2 q2 => ?_, hx.next S1⟩
  refine ⟨ρ2, G2, _, Ep, R2, q2, fun h ρ3 G3 H3 S3 R3 q3 => ?_, hx.next (S1.trans S2)⟩
  refine ⟨G3, _, _, R3.sub, opd_dq R3 (o1.mono (S2.gs.trans S3.gs)), q3, fun r z G4 H4 vr q4 => ?_⟩
  obtain ⟨R5, S5⟩ := R3.vr vr
  exact hq r z ρ3 G4 H4 (((S1.trans S2).trans S3).trans S5) R5 q4
theorem se_rvs {e : Expr} {ie : IE} {k : Nat} {p1 p2 p3 pos : Pos} (hK : X.K = T.K) (he : SE X T W Γ e ie) : SE X T W Γ (.Subscript e (.Slice none none (some (.UnaryOp .USub (.Constant (.int 1) k p1) p2)) p3) pos) (.rvs ie) := by
  refine pe_weak (pe_revL (pe_opd he)) fun σ H Q ⟨ρ, G, Qp, Ep, R, w, hq, hx⟩ => ?_
  refine ⟨ρ, G, _, Ep, R, w, fun x v ρ1 G1 H1 S1 R1 o1 q1 => ?_, hx⟩
  have dq := opd_dq R1 o1
  have q2 : rvsW (rdR ρ1 x) fun z => Qp z ρ1 := q1
  unfold rvsW at q2
  split at q2
  · rename_i xs e
    rw [e] at dq
    obtain ⟨a, vs, rfl, h1, h2⟩ := dq.lst R1.sub
    refine ⟨a, vs, rfl, by rw [hK]; exact h1, fun p np => ?_⟩
    obtain ⟨R3, S3⟩ := R1.vr (VR.newL R1.sub np h2.reverse)
    exact hq _ _ ρ1 _ _ (S1.trans S3) R3 q2
  · exact q2.elim
/-! ### attributes -/
theorem valG_mem {α β : Type} [DecidableEq α] {kvs : List (α × β)} {k : α} {v : β} (h : valG kvs k = some v) : (k, v) ∈ kvs := by
  unfold valG at h
  cases e : kvs.find? (fun kv => decide (kv.1 = k)) with
  | none => rw [e] at h; cases h
  | some q =>
    rw [e] at h
    obtain ⟨k', v'⟩ := q
    have h2 := List.find?_some e
    have h3 : k' = k := of_decide_eq_true h2
    cases h
    rw [← h3]
    exact List.mem_of_find?_eq_some e
theorem se_att {e : Expr} {ie : IE} {f : Str} {pos : Pos} (hK : X.K = T.K) (he : SE X T W Γ e ie) (hb : attributeBase e f X.env (eval e X.env) = eval e X.env) : SE X T W Γ (.Attribute e f pos) (.att ie f) := by
  refine pe_weak (pe_fld (pe_opd he) hb) fun σ H Q ⟨ρ, G, Qp, Ep, R, w, hq, hx⟩ => ?_
  refine ⟨ρ, G, _, Ep, R, w, fun x v ρ1 G1 H1 S1 R1 o1 q1 => ?_, hx⟩
  have dq := opd_dq R1 o1
  have q2 : attW (rdR ρ1 x) f fun z => Qp (.val z) ρ1 := q1
  unfold attW at q2
  split at q2
  · rename_i c fs e
    rw [e] at dq
    split at q2
    · rename_i d ed
      obtain ⟨a, dx, ws, rfl, h1, h2, h3⟩ := dq.obj R1.sub
      obtain ⟨z, h4, h5⟩ := (h3.lookup (f := f)).1 d ed
      exact ⟨a, _, dx, ws, z, rfl, h1, by rw [hK]; exact h2.1.cl, by rw [hK]; exact h2.1.na f (h2.2 _ (valG_mem ed)), h4, hq (.val d) z ρ1 G1 H1 S1 ⟨R1, h5⟩ q2⟩
    · exact q2.elim
  · rename_i c fs e
    rw [e] at dq
    rcases dq with dq | ⟨a, c', _, e', _⟩
    · exact dq.elim
    · cases c' <;> cases e'
  · exact q2.elim
theorem Rep.put {i : Nat} {a : Addr} {c c1 : Cell} {o : HO} (R : Rep T ρ σ G H) (hi : ρ[i]? = some (.own c)) (ha : σ[i]? = some (some (.ref a))) (hz : c.fz = true) (hz1 : c1.fz = true) (hc : CellAt T (upd H a o) G a c1) :
    Rep T (ρ.set i (.own c1)) σ G (upd H a o) ∧ Step (FpE ρ σ H) (FpE (ρ.set i (.own c1)) σ (upd H a o)) G H G (upd H a o) := by
  have il : i < ρ.length := (List.getElem?_eq_some_iff.mp hi).1
  have ga : G a = none := R.sep i c a a hi ha (Fp.self c)
  have key := (R.write (o := o) hi ha hz).2
  have so : ∀ (j : Nat) (e : Cell), (ρ.set i (.own c1))[j]? = some (.own e) → (j = i ∧ e = c1) ∨ (ρ[j]? = some (.own e) ∧ j ≠ i) := fun j e h => by
    by_cases hj : j = i
    · subst hj; rw [List.getElem?_set_self il] at h; cases h; exact .inl ⟨rfl, rfl⟩
    · rw [List.getElem?_set_ne (Ne.symm hj)] at h; exact .inr ⟨h, hj⟩
  have fp : ∀ (j : Nat) (e : Cell) (a' b : Addr), (ρ.set i (.own c1))[j]? = some (.own e) → σ[j]? = some (some (.ref a')) → Fp (upd H a o) a' e b → ∃ e', ρ[j]? = some (.own e') ∧ Fp H a' e' b := fun j e a' b h s f => by
    rcases so j e h with ⟨rfl, rfl⟩ | ⟨h1, hj⟩
    · rw [ha] at s
      cases s
      rw [Fp.one hz1 f]
      exact ⟨c, hi, Fp.self c⟩
    · exact ⟨e, h1, (key j e a' h1 s hj).2.2.2 b f⟩
  refine ⟨⟨by rw [List.length_set]; exact R.len, fun b u e => ?_, fun j d h => ?_, fun j e h => ?_, fun j e a' b h s f => ?_, fun j k e e' a1 a2 b h1 h2 s1 s2 f1 f2 => ?_⟩, ⟨Same.refl _, fun b e n => absurd e n, fun b u e n => ?_, fun b ⟨j, e, a', h1, h2, h3⟩ => ?_⟩⟩
  · rw [upd_ne (fun z => by rw [z, ga] at e; cases e)]; exact R.sub b u e
  · by_cases hj : j = i
    · subst hj; rw [List.getElem?_set_self il] at h; cases h
    · rw [List.getElem?_set_ne (Ne.symm hj)] at h; exact R.val j d h
  · rcases so j e h with ⟨rfl, rfl⟩ | ⟨h1, hj⟩
    · exact ⟨a, ha, hc⟩
    · obtain ⟨a', h2, h3⟩ := R.own j e h1
      exact ⟨a', h2, (key j e a' h1 h2 hj).2.2.1⟩
  · obtain ⟨e', h1, f'⟩ := fp j e a' b h s f
    exact R.sep j e' a' b h1 s f'
  · obtain ⟨d1, g1, f1'⟩ := fp j e a1 b h1 s1 f1
    obtain ⟨d2, g2, f2'⟩ := fp k e' a2 b h2 s2 f2
    exact R.dis j k d1 d2 a1 a2 b g1 g2 s1 s2 f1' f2'
  · rw [upd_ne (fun z => n (by rw [z]; exact ⟨i, c, a, hi, ha, Fp.self c⟩))]; exact e
  · obtain ⟨e', h4, f'⟩ := fp j e a' b h1 h2 h3
    exact .inl ⟨j, e', a', h4, h2, f'⟩
end
end Mi
namespace Mi
open PySem PySem.Spec PyProof.Rows L2
section
variable {T : Tx}
/-- a part of the frame was given away (P: its addresses) and came back changed: the frame put together again -/
theorem Rep.merge {ρ τ ρ' : Env} {σ μ σ' : L2.St} {G H G' H' : Hp} {P : Addr → Prop} (R : Rep T ρ σ G H) (R' : Rep T τ μ G' H') (S : Step P (FpE τ μ H') G H G' H') (A : Nat → Prop)
    (hP : ∀ b, P b → ∃ (i : Nat) (c : Cell) (a : Addr), A i ∧ ρ[i]? = some (.own c) ∧ σ[i]? = some (some (.ref a)) ∧ Fp H a c b)
    (hl : ρ'.length = σ'.length) (hv : ∀ (j : Nat) (d : D), ρ'[j]? = some (.val d) → ∃ v, σ'[j]? = some (some v) ∧ Dp T G' d v) (f : Nat → Nat ⊕ Nat)
    (ho : ∀ (j : Nat) (c : Cell), ρ'[j]? = some (.own c) → (∃ i, f j = .inl i ∧ ¬ A i ∧ ρ[i]? = some (.own c) ∧ σ'[j]? = σ[i]?) ∨ (∃ k, f j = .inr k ∧ τ[k]? = some (.own c) ∧ σ'[j]? = μ[k]?))
    (hi : ∀ (i j : Nat) (c e : Cell), ρ'[i]? = some (.own c) → ρ'[j]? = some (.own e) → f i = f j → i = j) :
    Rep T ρ' σ' G' H' ∧ Step (FpE ρ σ H) (FpE ρ' σ' H') G H G' H' := by
  -- what was kept back stands as it was
  have old : ∀ (i : Nat) (c : Cell) (a : Addr), ¬ A i → ρ[i]? = some (.own c) → σ[i]? = some (some (.ref a)) → (∀ b, Fp H a c b → ¬ P b) ∧ CellAt T H' G' a c ∧ (∀ b, Fp H' a c b → Fp H a c b) ∧ ∀ b, Fp H a c b → G' b = none := by
    intro i c a nA h1 h2
    have np : ∀ b, Fp H a c b → ¬ P b := fun b f1 hb => by
      obtain ⟨j, e, a', hA, g1, g2, g3⟩ := hP b hb
      have := R.dis i j c e a a' b h1 g1 h2 g2 f1 g3
      exact nA (by rw [this]; exact hA)
    obtain ⟨a2, h3, h4⟩ := R.own i c h1
    rw [h2] at h3
    cases h3
    have kp : ∀ b o, Fp H a c b → H b = some o → H' b = some o := fun b o f1 q => S.fr b o q (np b f1)
    obtain ⟨o, ho, _⟩ := Fp.there h4 (Fp.self c)
    refine ⟨np, (h4.mono S.gs).keep kp, fun b f1 => Fp.keep (fun u q => kp a u (Fp.self c) q) ⟨o, ho⟩ f1, fun b f1 => ?_⟩
    cases q : G' b with
    | none => rfl
    | some u =>
      rcases S.gn b (R.sep i c a b h1 h2 f1) (by rw [q]; simp) with z | z
      · exact absurd z (np b f1)
      · obtain ⟨o2, ho2, nt⟩ := Fp.there h4 f1
        rcases z with z | ⟨xs, z⟩
        · rw [z] at ho2; cases ho2
        · rw [z] at ho2; cases ho2; exact absurd rfl (nt xs)
  refine ⟨⟨hl, R'.sub, hv, fun j c h => ?_, fun j c a b h s f1 => ?_, fun j k c e a a' b h1 h2 s1 s2 f1 f2 => ?_⟩, ⟨S.gs, fun b e n => ?_, fun b o e n => ?_, fun b ⟨j, c, a, h1, h2, h3⟩ => ?_⟩⟩
  · rcases ho j c h with ⟨i, _, nA, h1, h2⟩ | ⟨k, _, h1, h2⟩
    · obtain ⟨a, h3, h4⟩ := R.own i c h1
      exact ⟨a, by rw [h2]; exact h3, (old i c a nA h1 h3).2.1⟩
    · obtain ⟨a, h3, h4⟩ := R'.own k c h1
      exact ⟨a, by rw [h2]; exact h3, h4⟩
  · rcases ho j c h with ⟨i, _, nA, h1, h2⟩ | ⟨k, _, h1, h2⟩
    · rw [h2] at s
      obtain ⟨_, _, o3, o4⟩ := old i c a nA h1 s
      exact o4 b (o3 b f1)
    · rw [h2] at s
      exact R'.sep k c a b h1 s f1
  · have cross : ∀ (i k : Nat) (c e : Cell) (a a' : Addr), ¬ A i → ρ[i]? = some (.own c) → σ[i]? = some (some (.ref a)) → τ[k]? = some (.own e) → μ[k]? = some (some (.ref a')) → Fp H' a c b → Fp H' a' e b → False := by
      intro i k c e a a' nA g1 g2 g3 g4 p1 p2
      obtain ⟨o1, _, o3, _⟩ := old i c a nA g1 g2
      rcases S.fp b ⟨k, e, a', g3, g4, p2⟩ with z | z
      · exact o1 b (o3 b p1) z
      · obtain ⟨a2, h3, h4⟩ := R.own i c g1
        rw [g2] at h3
        cases h3
        obtain ⟨u, hu, _⟩ := Fp.there h4 (o3 b p1)
        rw [z] at hu
        cases hu
    rcases ho j c h1 with ⟨i1, q1, nA1, g1, t1⟩ | ⟨k1, q1, g1, t1⟩ <;> rcases ho k e h2 with ⟨i2, q2, nA2, g2, t2⟩ | ⟨k2, q2, g2, t2⟩ <;> rw [t1] at s1 <;> rw [t2] at s2
    · refine hi j k c e h1 h2 ?_
      rw [q1, q2, R.dis i1 i2 c e a a' b g1 g2 s1 s2 ((old i1 c a nA1 g1 s1).2.2.1 b f1) ((old i2 e a' nA2 g2 s2).2.2.1 b f2)]
    · exact (cross i1 k2 c e a a' nA1 g1 s1 g2 s2 f1 f2).elim
    · exact (cross i2 k1 e c a' a nA2 g2 s2 g1 s1 f2 f1).elim
    · refine hi j k c e h1 h2 ?_
      rw [q1, q2, R'.dis k1 k2 c e a a' b g1 g2 s1 s2 f1 f2]
  · rcases S.gn b e n with z | z
    · obtain ⟨i, c, a, _, g1, g2, g3⟩ := hP b z
      exact .inl ⟨i, c, a, g1, g2, g3⟩
    · exact .inr z
  · refine S.fr b o e fun z => ?_
    obtain ⟨i, c, a, _, g1, g2, g3⟩ := hP b z
    exact n ⟨i, c, a, g1, g2, g3⟩
  · rcases ho j c h1 with ⟨i, _, nA, g1, t1⟩ | ⟨k, _, g1, t1⟩
    · rw [t1] at h2
      exact .inl ⟨i, c, a, g1, h2, (old i c a nA g1 h2).2.2.1 b h3⟩
    · rw [t1] at h2
      rcases S.fp b ⟨k, c, a, g1, h2, h3⟩ with z | z
      · obtain ⟨i, e, a', _, q1, q2, q3⟩ := hP b z
        exact .inl ⟨i, e, a', q1, q2, q3⟩
      · exact .inr z
/-! ### arguments as a frame -/
theorem opds_get {σ : L2.St} {G : Hp} : ∀ {rs : List Res} {vs : List V} {k : Nat} {x : Res}, OpdsAt T G σ rs vs → rs[k]? = some x → ∃ v, vs[k]? = some v ∧ OpdAt T G σ x v
  | _, _, _, _, .nil, e => by simp at e
  | _ :: _, v :: _, 0, _, .cons h _, e => by simp at e; subst e; exact ⟨v, rfl, h⟩
  | _ :: _, _ :: _, k + 1, x, .cons _ t, e => by
    obtain ⟨v, h1, h2⟩ := opds_get (k := k) (x := x) t (by simpa using e)
    exact ⟨v, by simpa using h1, h2⟩
def ixR (rs : List Res) (k : Nat) : Nat := match rs[k]? with
  | some (.slot i) => i
  | _ => 0
theorem mem_slotsIn {rs : List Res} {k i : Nat} (h : rs[k]? = some (.slot i)) : i ∈ slotsIn rs := List.mem_filterMap.mpr ⟨.slot i, List.mem_of_getElem? h, rfl⟩
theorem slots_inj : ∀ {rs : List Res} {k l i : Nat}, (slotsIn rs).Nodup → rs[k]? = some (.slot i) → rs[l]? = some (.slot i) → k = l
  | [], _, _, _, _, h, _ => by simp at h
  | r :: rs, 0, 0, _, _, _, _ => rfl
  | r :: rs, 0, l + 1, i, nd, h1, h2 => by
    simp at h1
    subst h1
    have h3 : rs[l]? = some (.slot i) := by simpa using h2
    have : (i :: slotsIn rs).Nodup := nd
    exact absurd (mem_slotsIn h3) (List.nodup_cons.mp this).1
  | r :: rs, k + 1, 0, i, nd, h1, h2 => by
    simp at h2
    subst h2
    have h3 : rs[k]? = some (.slot i) := by simpa using h1
    have : (i :: slotsIn rs).Nodup := nd
    exact absurd (mem_slotsIn h3) (List.nodup_cons.mp this).1
  | r :: rs, k + 1, l + 1, i, nd, h1, h2 => by
    have nd2 : (slotsIn rs).Nodup := by
      cases r with
      | slot j => exact (List.nodup_cons.mp (show (j :: slotsIn rs).Nodup from nd)).2
      | val d => exact nd
      | own c => exact nd
    rw [slots_inj (k := k) (l := l) nd2 (by simpa using h1) (by simpa using h2)]
theorem arg_own {ρ : Env} {σ : L2.St} {G H : Hp} (R : Rep T ρ σ G H) {rs : List Res} {vs : List V} (o : OpdsAt T G σ rs vs) {k : Nat} {c : Cell} (h : (rs.map (slR ρ))[k]? = some (.own c)) : ∃ i, rs[k]? = some (.slot i) ∧ ρ[i]? = some (.own c) ∧ (vs.map some)[k]? = σ[i]? := by
  rw [List.getElem?_map] at h
  cases e : rs[k]? with
  | none => rw [e] at h; cases h
  | some x =>
    rw [e] at h
    obtain ⟨v, h1, h2⟩ := opds_get o e
    cases x with
    | val d => cases h
    | own c' => exact h2.elim
    | slot i =>
      have h3 : ρ.getD i .non = .own c := Option.some.inj h
      rw [List.getD_eq_getElem?_getD] at h3
      cases q : ρ[i]? with
      | none => rw [q] at h3; cases h3
      | some s =>
        rw [q] at h3
        have h4 : s = .own c := h3
        subst h4
        exact ⟨i, rfl, q, by rw [List.getElem?_map, h1]; exact h2.symm⟩
theorem Rep.args {ρ : Env} {σ : L2.St} {G H : Hp} (R : Rep T ρ σ G H) {rs : List Res} {vs : List V} (o : OpdsAt T G σ rs vs) (nd : (slotsIn rs).Nodup) : Rep T (rs.map (slR ρ)) (vs.map some) G H := by
  refine R.re (by simp [opds_len o]) (fun k d h => ?_) (ixR rs) (fun k c h => ?_) (fun k l c e h1 h2 q => ?_)
  · rw [List.getElem?_map] at h
    cases e : rs[k]? with
    | none => rw [e] at h; cases h
    | some x =>
      rw [e] at h
      obtain ⟨v, h1, h2⟩ := opds_get o e
      refine ⟨v, by rw [List.getElem?_map, h1]; rfl, ?_⟩
      cases x with
      | val d' => cases h; exact h2
      | own c' => exact h2.elim
      | slot i =>
        have h3 : ρ.getD i .non = .val d := Option.some.inj h
        rw [List.getD_eq_getElem?_getD] at h3
        cases q : ρ[i]? with
        | none => rw [q] at h3; cases h3
        | some s =>
          rw [q] at h3
          have h4 : s = .val d := h3
          subst h4
          obtain ⟨v', h5, h6⟩ := R.val i d q
          rw [show σ[i]? = some (some v) from h2] at h5
          cases h5
          exact h6
  · obtain ⟨i, e, h1, h2⟩ := arg_own R o h
    have : ixR rs k = i := by unfold ixR; rw [e]
    rw [this]
    exact ⟨h1, h2⟩
  · obtain ⟨i, e1, _, _⟩ := arg_own R o h1
    obtain ⟨j, e2, _, _⟩ := arg_own R o h2
    have a1 : ixR rs k = i := by unfold ixR; rw [e1]
    have a2 : ixR rs l = j := by unfold ixR; rw [e2]
    rw [a1, a2] at q
    subst q
    exact slots_inj nd e1 e2
theorem back1_len : ∀ (rs : List Res) (ss : List Slot) (ρ : Env), (back1 rs ss ρ).length = ρ.length
  | [], _, ρ => by cases ‹List Slot› <;> rfl
  | .val _ :: rs, [], ρ => rfl
  | .own _ :: rs, [], ρ => rfl
  | .slot _ :: rs, [], ρ => rfl
  | .val _ :: rs, s :: ss, ρ => back1_len rs ss ρ
  | .own _ :: rs, s :: ss, ρ => back1_len rs ss ρ
  | .slot i :: rs, s :: ss, ρ => by
    show (back1 rs ss (ρ.set i s)).length = ρ.length
    rw [back1_len, List.length_set]
/-- a slot behind the call: given, or as before -/
theorem back1_get : ∀ (rs : List Res) (ss : List Slot) (ρ : Env) (j : Nat), (slotsIn rs).Nodup → rs.length = ss.length → (∃ (k : Nat), rs[k]? = some (Res.slot j) ∧ (j < ρ.length → (back1 rs ss ρ)[j]? = ss[k]?) ∧ (¬ j < ρ.length → (back1 rs ss ρ)[j]? = none)) ∨ (j ∉ slotsIn rs ∧ (back1 rs ss ρ)[j]? = ρ[j]?)
  | [], ss, ρ, j, _, _ => .inr ⟨by simp [slotsIn], by cases ss <;> rfl⟩
  | _ :: _, [], _, _, _, h => by simp at h
  | r :: rs, s :: ss, ρ, j, nd, hl => by
    have hl' : rs.length = ss.length := by simpa using hl
    cases r with
    | val d =>
      rcases back1_get rs ss ρ j nd hl' with ⟨k, h1, h2, h3⟩ | ⟨h1, h2⟩
      · exact .inl ⟨k + 1, by simpa using h1, fun q => by rw [List.getElem?_cons_succ]; exact h2 q, h3⟩
      · exact .inr ⟨h1, h2⟩
    | own c =>
      rcases back1_get rs ss ρ j nd hl' with ⟨k, h1, h2, h3⟩ | ⟨h1, h2⟩
      · exact .inl ⟨k + 1, by simpa using h1, fun q => by rw [List.getElem?_cons_succ]; exact h2 q, h3⟩
      · exact .inr ⟨h1, h2⟩
    | slot i =>
      have nd2 := List.nodup_cons.mp (show (i :: slotsIn rs).Nodup from nd)
      have e : back1 (.slot i :: rs) (s :: ss) ρ = back1 rs ss (ρ.set i s) := rfl
      rw [e]
      rcases back1_get rs ss (ρ.set i s) j nd2.2 hl' with ⟨k, h1, h2, h3⟩ | ⟨h1, h2⟩
      · refine .inl ⟨k + 1, by simpa using h1, fun q => ?_, fun q => ?_⟩
        · rw [List.getElem?_cons_succ]; exact h2 (by simpa using q)
        · exact h3 (by simpa using q)
      · by_cases hj : j = i
        · subst hj
          refine .inl ⟨0, rfl, fun q => ?_, fun q => ?_⟩
          · rw [h2, List.getElem?_set_self q]; rfl
          · rw [h2, List.getElem?_eq_none (by simpa using q)]
        · refine .inr ⟨?_, ?_⟩
          · show j ∉ i :: slotsIn rs
            simp [hj, h1]
          · rw [h2, List.getElem?_set_ne (Ne.symm hj)]
/-- behind a call -/
theorem Rep.called {ρ : Env} {σ : L2.St} {G H G' H' : Hp} (R : Rep T ρ σ G H) {rs : List Res} {vs : List V} (o : OpdsAt T G σ rs vs) (nd : (slotsIn rs).Nodup) {ss : List Slot} (hl : ss.length = rs.length) {r : Res} {v : V} (hr : ∀ i, r ≠ .slot i)
    (S : Step (FpE (rs.map (slR ρ)) (vs.map some) H) (FpR ss (vs.map some) r v H') G H G' H') (R' : RepR T ss (vs.map some) r v G' H') : RepR T (back1 rs ss ρ) σ r v G' H' ∧ Step (FpE ρ σ H) (FpR (back1 rs ss ρ) σ r v H') G H G' H' := by
  have RA : Rep T ss (vs.map some) G' H' := by
    cases r with
    | val d => exact R'.1
    | own c => exact R'.2.init
    | slot i => exact absurd rfl (hr i)
  have hP : ∀ b, FpE (rs.map (slR ρ)) (vs.map some) H b → ∃ (i : Nat) (c : Cell) (a : Addr), i ∈ slotsIn rs ∧ ρ[i]? = some (.own c) ∧ σ[i]? = some (some (.ref a)) ∧ Fp H a c b := fun b ⟨k, c, a, h1, h2, h3⟩ => by
    obtain ⟨i, e, g1, g2⟩ := arg_own R o h1
    exact ⟨i, c, a, mem_slotsIn e, g1, by rw [← g2]; exact h2, h3⟩
  have slotV : ∀ {k j : Nat}, rs[k]? = some (.slot j) → (vs.map some)[k]? = σ[j]? := fun {k j} e => by
    obtain ⟨w, h1, h2⟩ := opds_get o e
    rw [List.getElem?_map, h1]
    exact h2.symm
  have hv : ∀ (j : Nat) (d : D), (back1 rs ss ρ)[j]? = some (.val d) → ∃ v, σ[j]? = some (some v) ∧ Dp T G' d v := fun j d h => by
    rcases back1_get rs ss ρ j nd hl.symm with ⟨k, e, h1, h2⟩ | ⟨_, h1⟩
    · by_cases q : j < ρ.length
      · rw [h1 q] at h
        obtain ⟨w, g1, g2⟩ := RA.val k d h
        rw [slotV e] at g1
        exact ⟨w, g1, g2⟩
      · rw [h2 q] at h; cases h
    · rw [h1] at h
      obtain ⟨w, g1, g2⟩ := R.val j d h
      exact ⟨w, g1, g2.mono S.gs⟩
  let g : Nat → Nat ⊕ Nat := fun j => match rs.findIdx? (fun r => match r with | .slot i => decide (i = j) | _ => false) with
    | some k => .inr k
    | none => .inl j
  have gin : ∀ {j k : Nat}, rs[k]? = some (.slot j) → g j = .inr k := fun {j k} e => by
    show (match rs.findIdx? (fun r => match r with | .slot i => decide (i = j) | _ => false) with | some k => Sum.inr k | none => Sum.inl j) = Sum.inr k
    cases q : rs.findIdx? (fun r => match r with | .slot i => decide (i = j) | _ => false) with
    | none =>
      have := List.findIdx?_eq_none_iff.mp q (.slot j) (List.mem_of_getElem? e)
      simp at this
    | some l =>
      obtain ⟨hl, h2, _⟩ := List.findIdx?_eq_some_iff_getElem.mp q
      have e2 : rs[l]? = some (.slot j) := by
        rw [List.getElem?_eq_getElem hl]
        cases z : rs[l] with
        | slot i => rw [z] at h2; have : i = j := of_decide_eq_true h2; rw [this]
        | val d => rw [z] at h2; cases h2
        | own d => rw [z] at h2; cases h2
      rw [slots_inj nd e2 e]
  have gout : ∀ {j : Nat}, j ∉ slotsIn rs → g j = .inl j := fun {j} hn => by
    show (match rs.findIdx? (fun r => match r with | .slot i => decide (i = j) | _ => false) with | some k => Sum.inr k | none => Sum.inl j) = Sum.inl j
    cases q : rs.findIdx? (fun r => match r with | .slot i => decide (i = j) | _ => false) with
    | none => rfl
    | some l =>
      obtain ⟨hl, h2, _⟩ := List.findIdx?_eq_some_iff_getElem.mp q
      exfalso
      cases z : rs[l] with
      | slot i =>
        rw [z] at h2
        have : i = j := of_decide_eq_true h2
        exact hn (mem_slotsIn (k := l) (by rw [List.getElem?_eq_getElem hl, z, this]))
      | val d => rw [z] at h2; cases h2
      | own d => rw [z] at h2; cases h2
  have hown : ∀ (j : Nat) (c : Cell), (back1 rs ss ρ)[j]? = some (.own c) → (∃ i, g j = .inl i ∧ ¬ i ∈ slotsIn rs ∧ ρ[i]? = some (.own c) ∧ σ[j]? = σ[i]?) ∨ (∃ k, g j = .inr k ∧ ss[k]? = some (.own c) ∧ σ[j]? = (vs.map some)[k]?) := fun j c h => by
    rcases back1_get rs ss ρ j nd hl.symm with ⟨k, e, h1, h2⟩ | ⟨hn, h1⟩
    · by_cases q : j < ρ.length
      · rw [h1 q] at h
        exact .inr ⟨k, gin e, h, (slotV e).symm⟩
      · rw [h2 q] at h; cases h
    · rw [h1] at h
      exact .inl ⟨j, gout hn, hn, h, rfl⟩
  have ginj : ∀ (i j : Nat) (c e : Cell), (back1 rs ss ρ)[i]? = some (.own c) → (back1 rs ss ρ)[j]? = some (.own e) → g i = g j → i = j := fun i j c e h1 h2 q => by
    have tell : ∀ (j : Nat) (c : Cell), (back1 rs ss ρ)[j]? = some (.own c) → (∃ (k : Nat), rs[k]? = some (Res.slot j) ∧ g j = .inr k) ∨ g j = .inl j := fun j c h => by
      rcases back1_get rs ss ρ j nd hl.symm with ⟨k, e, _, _⟩ | ⟨hn, h1⟩
      · exact .inl ⟨k, e, gin e⟩
      · exact .inr (gout hn)
    rcases tell i c h1 with ⟨k, e1, g1⟩ | g1 <;> rcases tell j e h2 with ⟨l, e2, g2⟩ | g2 <;> rw [g1, g2] at q <;> cases q
    · rw [e1] at e2; cases e2; rfl
    · rfl
  have hlen : (back1 rs ss ρ).length = σ.length := by rw [back1_len]; exact R.len
  cases r with
  | val d =>
    obtain ⟨R2, S2⟩ := R.merge RA S (fun i => i ∈ slotsIn rs) hP hlen hv g hown ginj
    exact ⟨⟨R2, R'.2⟩, S2⟩
  | slot i => exact absurd rfl (hr i)
  | own c =>
    obtain ⟨⟨a, rfl⟩, R2⟩ := R'
    have hlv : ss.length = (vs.map some).length := by rw [hl, List.length_map, opds_len o]
    let g2 : Nat → Nat ⊕ Nat := fun j => if j = ρ.length then .inr ss.length else g j
    have hb : (back1 rs ss ρ).length = ρ.length := back1_len rs ss ρ
    have ne : ∀ {j : Nat} {x : Slot}, (back1 rs ss ρ)[j]? = some x → j ≠ ρ.length := fun {j x} h z => by
      have := (List.getElem?_eq_some_iff.mp h).1
      omega
    have gk : ∀ {j k : Nat} {c : Cell}, (back1 rs ss ρ)[j]? = some (.own c) → g j = .inr k → k < ss.length := fun {j k c} h q => by
      rcases hown j c h with ⟨i, q2, _⟩ | ⟨k2, q2, q3, _⟩
      · rw [q] at q2; cases q2
      · rw [q] at q2; cases q2; exact (List.getElem?_eq_some_iff.mp q3).1
    obtain ⟨R3, S3⟩ := R.merge (ρ' := back1 rs ss ρ ++ [.own c]) (σ' := σ ++ [some (.ref a)]) R2 S (fun i => i ∈ slotsIn rs) hP (by simp [hlen]) (fun j d h => by
      rcases get_app h with h | ⟨_, h⟩
      · obtain ⟨w, h1, h2⟩ := hv j d h
        exact ⟨w, get_init h1, h2⟩
      · cases h) g2 (fun j e h => by
      rcases get_app h with h | ⟨q, h⟩
      · have hj : g2 j = g j := if_neg (ne h)
        have hs : (σ ++ [some (.ref a)])[j]? = σ[j]? := List.getElem?_append_left (by have := (List.getElem?_eq_some_iff.mp h).1; omega)
        rw [hj, hs]
        rcases hown j e h with ⟨i, q1, q2, q3, q4⟩ | ⟨k, q1, q2, q3⟩
        · exact .inl ⟨i, q1, q2, q3, q4⟩
        · refine .inr ⟨k, q1, get_init q2, ?_⟩
          rw [q3, List.getElem?_append_left (by rw [← hlv]; exact (List.getElem?_eq_some_iff.mp q2).1)]
      · cases h
        subst q
        refine .inr ⟨ss.length, ?_, get_last, ?_⟩
        · show (if (back1 rs ss ρ).length = ρ.length then Sum.inr ss.length else _) = _
          rw [if_pos hb]
        · rw [hlen, get_last, hlv, get_last]) (fun i j c' e h1 h2 q => by
      rcases get_app h1 with h1 | ⟨q1, _⟩ <;> rcases get_app h2 with h2 | ⟨q2, _⟩
      · have a1 : g2 i = g i := if_neg (ne h1)
        have a2 : g2 j = g j := if_neg (ne h2)
        rw [a1, a2] at q
        exact ginj i j c' e h1 h2 q
      · have a1 : g2 i = g i := if_neg (ne h1)
        have a2 : g2 j = .inr ss.length := if_pos (by omega)
        rw [a1, a2] at q
        have := gk h1 q
        omega
      · have a1 : g2 i = .inr ss.length := if_pos (by omega)
        have a2 : g2 j = g j := if_neg (ne h2)
        rw [a1, a2] at q
        have := gk h2 q.symm
        omega
      · omega)
    exact ⟨⟨⟨a, rfl⟩, R3⟩, S3⟩
end
end Mi
namespace Mi
open PySem PySem.Spec PyProof.Rows L2
/-! ### the promise of a def -/
def spF (T : Tx) (n : Nat) (f : FS) : Sp := fun vs H Q E => vs.length = n ∧ ∃ (ss : List Slot) (G : Hp) (Qp : Res → List Slot → Prop) (Ep : Xc → List Slot → Prop), Rep T ss (vs.map some) G H ∧ f ss Qp Ep ∧
  (∀ r ss', Qp r ss' → (∀ i, r ≠ .slot i) → ss'.length = ss.length → ∀ v G' H', Step (FpE ss (vs.map some) H) (FpR ss' (vs.map some) r v H') G H G' H' → RepR T ss' (vs.map some) r v G' H' → Q v H') ∧
  (∀ x ss', Ep x ss' → ss'.length = ss.length → ∀ cls d G' H', Step (FpE ss (vs.map some) H) (FpE ss' (vs.map some) H') G H G' H' → Rep T ss' (vs.map some) G' H' → XAt T G' x cls d → E cls d H')
section
variable {X : Cx} {T : Tx} {W : WX} {Γ : Nat → FS}
theorem opds_app {σ : L2.St} {G : Hp} : ∀ {rs : List Res} {vs : List V} {ds : List D} {us : List V}, OpdsAt T G σ rs vs → Dps T G ds us → OpdsAt T G σ (rs ++ ds.map Res.val) (vs ++ us)
  | [], _, [], _, .nil, h => by cases h; exact .nil
  | [], _, d :: ds, _, .nil, ⟨u, ur, h1, h2, h3⟩ => by subst h1; exact .cons h2 (opds_app (rs := []) .nil h3)
  | _ :: _, _ :: _, _, _, .cons h t, q => .cons h (opds_app t q)
/-- how many arguments a promise takes -/
def Ar (n : Nat) (f : FS) : Prop := ∀ ss Q E, f ss Q E → ss.length = n
/-- a call's promise, met -/
theorem call_sp {fi n : Nat} {ρ : Env} {σ : L2.St} {G H : Hp} {rs : List Res} {vs : List V} {Qp : Res → Env → Prop} {Ep : Xc → Env → Prop} {Q : VK} (R : Rep T ρ σ G H) (o : OpdsAt T G σ rs vs) (hn : Ar n (Γ fi)) (w : callW Γ fi rs ρ Qp Ep)
    (hq : ∀ r v ρ' G' H', Step (FpE ρ σ H) (FpR ρ' σ r v H') G H G' H' → RepR T ρ' σ r v G' H' → Qp r ρ' → Q v H') (he : dX T W ρ σ G H Ep) : spF T n (Γ fi) vs H Q (WE W σ) := by
  refine ⟨by have := hn _ _ _ w.2; rw [opds_len o]; simpa using this, rs.map (slR ρ), G, _, _, R.args o w.1, w.2, fun r ss q hr hl v G' H' S R' => ?_, fun x ss q hl cls d G' H' S R' xa => ?_⟩
  · obtain ⟨R2, S2⟩ := R.called o w.1 (by rw [hl, List.length_map]) hr S R'
    exact hq r v _ G' H' S2 R2 q
  · obtain ⟨⟨R2, _⟩, S2⟩ := R.called (r := .val .bot) (v := .non) o w.1 (by rw [hl, List.length_map]) (fun i z => by cases z) S ⟨R', trivial⟩
    exact he x cls d _ G' H' S2 R2 xa q
variable {fi k : Nat} {f : Addr} {fd : FuncData} {ps : List Str} {dds : List D} {dvs : List V} {dsv : List Value} {x : Str} {e : Expr} {es : List Expr} {irs : List IE} {p pos : Pos}
/-- f(e, ..) -/
theorem se_call (F : FnOk X.prog X.w X.K X.mg X.base (L2.CX X.prog X.w) k f fd ps (spF T ps.length (Γ fi))) (hr : Room k X.A) (hg : Gl X x) (hm : X.mg x = some (.ref f)) (hk : PySem.W.keepIn X.K (.ref f) = true) (hb : Binds X.K fd ps dsv) (hd : Vals dvs dsv) (hdd : ∀ G, Dps T G dds dvs) (tk : Takes X W) (hA : Ar ps.length (Γ fi))
    (ha : SA X T W Γ (e :: es) irs) (hdb : (x == ("__debug__" : Str)) = false) (hst : starEach (e :: es) X.env = (false, eval e X.env) :: starEach es X.env) (hpl : (backTo pos (starEach es X.env)).any (·.1) = false) :
    SE X T W Γ (.Call (.Name x p) (e :: es) [] pos) (.call fi irs dds) := by
  refine pe_weak (pe_callSD (E := WE W) F hr hg hm hk hb hd (fun σ => passAt tk σ) ha hdb hst hpl) fun σ H Q ⟨ρ, G, Qp, Ep, R, w, hq, he⟩ => ?_
  refine ⟨ρ, G, _, Ep, R, w, fun rs vs ρ1 G1 H1 S1 R1 o1 q1 => ?_, he⟩
  exact call_sp R1 (opds_app o1 (hdd G1)) hA q1 (fun r v ρ2 G2 H2 S2 R2 q2 => hq r v ρ2 G2 H2 (S1.trans S2) R2 q2) (he.next S1)
/-- o.m(e, ..), by slots -/
def tMethSD (C : Addr) (m : Str) (sp : Sp) (dvs : List V) (E : L2.St → XK) (ta : TE) (t : TA) : TE := fun σ H Q => ta σ H fun x H1 => ∃ a dx fs, x = .ref a ∧ H1 a = some (.ins C dx fs) ∧ fs.lookup m = none ∧ t σ H1 fun vs H2 => sp (.ref a :: (vs ++ dvs)) H2 Q (E σ)
theorem pe_methSD {CX : CXT} {C : Addr} {sp : Sp} {E : L2.St → XK} {o : Expr} {ta : TE} {t : TA} {m : Str} {apos : Pos} {pl : Sem Bool} (he : PE X o ta) (c : L2.Cls X.K C) (hm : Meth X.K C m f) (F : FnOk X.prog X.w X.K X.mg X.base CX k f fd ps sp) (hr : Room k X.A) (hb : Binds X.K fd ps dsv) (hd : Vals dvs dsv) (hx : ∀ σ, PassesAt CX X σ (E σ)) (ha : PA X (e :: es) t)
    (hst : starEach (e :: es) X.env = (false, eval e X.env) :: starEach es X.env) (hpl : (backTo pos (starEach es X.env)).any (·.1) = false)
    (ht : eval (.Call (.Attribute o m apos) (e :: es) [] pos) X.env = (do
      let ov ← eval o X.env
      standAt apos.atName
      let (f, first) ← holding [ov] (getMethod ov m pl)
      callWith pos f first (backTo pos (starEach (e :: es) X.env)) (backToKw pos (keywordEach [] X.env)))) : PE X (.Call (.Attribute o m apos) (e :: es) [] pos) (tMethSD C m sp dvs E ta t) := by
  refine ⟨fun pins s σ H Q I h => ?_⟩
  refine PySem.W.methodCall_KW (pl := pl) (thn (he.run pins s σ H _ I h) fun u s1 ⟨z, H1, I1, rx, a, dx, fs, ex, ea, l, q⟩ => ?_) ht
  subst ex
  obtain rfl : u = Value.ref a := rx
  refine getmeth_ok I1 ea c hm l ?_
  refine PySem.W.callWith_K (first := [.ref a]) (h₀ := X.base) I.ok.mod.kin hm.kp (thn (ha.run pos pins s1 σ H1 _ I1 q) fun us s2 ⟨vs, H2, I2, r, q2⟩ => ⟨I2.kIn, ?_⟩) hst hpl
  exact run_fnSD (us := .ref a :: us) (vs := .ref a :: vs) F hr hb hd (hx σ) I2 (.cons rfl r) q2
theorem pe_methSD0 {CX : CXT} {C : Addr} {sp : Sp} {E : L2.St → XK} {o : Expr} {ta : TE} {m : Str} {apos : Pos} {pl : Sem Bool} (he : PE X o ta) (c : L2.Cls X.K C) (hm : Meth X.K C m f) (F : FnOk X.prog X.w X.K X.mg X.base CX k f fd ps sp) (hr : Room k X.A) (hb : Binds X.K fd ps dsv) (hd : Vals dvs dsv) (hx : ∀ σ, PassesAt CX X σ (E σ))
    (ht : eval (.Call (.Attribute o m apos) [] [] pos) X.env = (do
      let ov ← eval o X.env
      standAt apos.atName
      let (f, first) ← holding [ov] (getMethod ov m pl)
      callWith pos f first (backTo pos (starEach [] X.env)) (backToKw pos (keywordEach [] X.env)))) : PE X (.Call (.Attribute o m apos) [] [] pos) (tMethSD C m sp dvs E ta tNil) := by
  refine ⟨fun pins s σ H Q I h => ?_⟩
  refine PySem.W.methodCall_KW (pl := pl) (thn (he.run pins s σ H _ I h) fun u s1 ⟨z, H1, I1, rx, a, dx, fs, ex, ea, l, q⟩ => ?_) ht
  subst ex
  obtain rfl : u = Value.ref a := rx
  refine getmeth_ok I1 ea c hm l ?_
  exact PySem.W.callWith_K0 (first := [.ref a]) I1.kIn hm.kp (run_fnSD (us := [.ref a]) (vs := [.ref a]) F hr hb hd (hx σ) I1 (.cons rfl .nil) q)
/-- o.m(e, ..) -/
theorem mcl_sp {c : Nat} {m : Str} {ir : IE} {σ : L2.St} {H : Hp} {Q : VK} (hK : X.K = T.K) (hdd : ∀ G, Dps T G dds dvs) (hA : Ar ps.length (Γ fi)) (h : dG T W (wp Γ (.mcl c m fi ir irs dds)) σ H Q) :
    tMethSD (T.cl c) m (spF T ps.length (Γ fi)) dvs (WE W) (dO T W (opdT (wp Γ ir))) (dA T W (wpL Γ irs)) σ H Q := by
  obtain ⟨ρ, G, Qp, Ep, R, w, hq, he⟩ := h
  refine ⟨ρ, G, _, Ep, R, w, fun y v ρ1 G1 H1 S1 R1 o1 q1 => ?_, he⟩
  have dq := opd_dq R1 o1
  have q2 : (match rdR ρ1 y with | .obj c2 fs => (c2 = c ∧ valG fs m = none) ∧ wpL Γ irs ρ1 (fun rs ρ3 => callW Γ fi ((y :: rs) ++ dds.map Res.val) ρ3 Qp Ep) Ep | _ => False) := q1
  split at q2
  · rename_i c2 fs ed
    rw [ed] at dq
    obtain ⟨⟨rfl, hno⟩, q3⟩ := q2
    obtain ⟨a, dx, ws, rfl, h1, h2, h3⟩ := dq.obj R1.sub
    refine ⟨a, dx, ws, rfl, h1, (h3.lookup (f := m)).2 hno, ρ1, G1, _, Ep, R1, q3, fun rs vs ρ2 G2 H2 S2 R2 o2 q4 => ?_, he.next S1⟩
    exact call_sp (vs := .ref a :: (vs ++ dvs)) R2 (.cons (o1.mono S2.gs) (opds_app o2 (hdd G2))) hA q4 (fun r v ρ3 G3 H3 S3 R3 q5 => hq r v ρ3 G3 H3 ((S1.trans S2).trans S3) R3 q5) (he.next (S1.trans S2))
  · exact q2.elim
theorem se_mcl {c : Nat} {m : Str} {o : Expr} {ir : IE} {apos : Pos} {pl : Sem Bool} (hK : X.K = T.K) (ho : SE X T W Γ o ir) (hc : L2.Cls X.K (T.cl c)) (hm : Meth X.K (T.cl c) m f) (F : FnOk X.prog X.w X.K X.mg X.base (L2.CX X.prog X.w) k f fd ps (spF T ps.length (Γ fi))) (hr : Room k X.A) (hb : Binds X.K fd ps dsv) (hd : Vals dvs dsv) (hdd : ∀ G, Dps T G dds dvs) (tk : Takes X W) (hA : Ar ps.length (Γ fi))
    (ha : SA X T W Γ (e :: es) irs) (hst : starEach (e :: es) X.env = (false, eval e X.env) :: starEach es X.env) (hpl : (backTo pos (starEach es X.env)).any (·.1) = false)
    (ht : eval (.Call (.Attribute o m apos) (e :: es) [] pos) X.env = (do
      let ov ← eval o X.env
      standAt apos.atName
      let (f, first) ← holding [ov] (getMethod ov m pl)
      callWith pos f first (backTo pos (starEach (e :: es) X.env)) (backToKw pos (keywordEach [] X.env)))) : SE X T W Γ (.Call (.Attribute o m apos) (e :: es) [] pos) (.mcl c m fi ir irs dds) :=
  pe_weak (pe_methSD (E := WE W) (pe_opd ho) hc hm F hr hb hd (fun σ => passAt tk σ) ha hst hpl ht) fun _ _ _ h => mcl_sp hK hdd hA h
theorem se_mcl0 {c : Nat} {m : Str} {o : Expr} {ir : IE} {apos : Pos} {pl : Sem Bool} (hK : X.K = T.K) (ho : SE X T W Γ o ir) (hc : L2.Cls X.K (T.cl c)) (hm : Meth X.K (T.cl c) m f) (F : FnOk X.prog X.w X.K X.mg X.base (L2.CX X.prog X.w) k f fd ps (spF T ps.length (Γ fi))) (hr : Room k X.A) (hb : Binds X.K fd ps dsv) (hd : Vals dvs dsv) (hdd : ∀ G, Dps T G dds dvs) (tk : Takes X W) (hA : Ar ps.length (Γ fi))
    (ht : eval (.Call (.Attribute o m apos) [] [] pos) X.env = (do
      let ov ← eval o X.env
      standAt apos.atName
      let (f, first) ← holding [ov] (getMethod ov m pl)
      callWith pos f first (backTo pos (starEach [] X.env)) (backToKw pos (keywordEach [] X.env)))) : SE X T W Γ (.Call (.Attribute o m apos) [] [] pos) (.mcl c m fi ir [] dds) := by
  refine pe_weak (pe_methSD0 (E := WE W) (pe_opd ho) hc hm F hr hb hd (fun σ => passAt tk σ) ht) fun σ H Q h => ?_
  obtain ⟨ρ, G, Qp, Ep, R, w, hq, he⟩ := mcl_sp (dvs := dvs) (ps := ps) hK hdd hA h
  refine ⟨ρ, G, Qp, Ep, R, w, fun y v ρ1 G1 H1 S1 R1 o1 q1 => ?_, he⟩
  obtain ⟨a, dx, fs, h1, h2, h3, ρ2, G2, Q2, E2, R2, w2, hq2, _⟩ := hq y v ρ1 G1 H1 S1 R1 o1 q1
  exact ⟨a, dx, fs, h1, h2, h3, hq2 [] [] ρ2 G2 H1 (Step.refl fun _ h => h) R2 .nil w2⟩
end
end Mi
namespace Mi
open PySem PySem.Spec PyProof.Rows L2
section
variable {T : Tx} {l : Env} {m : L2.St} {s : Slot} {o : Option V} {G H : Hp}
theorem get_cons {α : Type} {x y : α} {l : List α} {j : Nat} (h : (x :: l)[j]? = some y) : (j = 0 ∧ x = y) ∨ (∃ i, j = i + 1 ∧ l[i]? = some y) := by
  cases j with
  | zero => exact .inl ⟨rfl, by simpa using h⟩
  | succ i => exact .inr ⟨i, rfl, by simpa using h⟩
theorem Rep.rot (R : Rep T (l ++ [s]) (m ++ [o]) G H) : Rep T (s :: l) (o :: m) G H := by
  have hl : l.length = m.length := by simpa using R.len
  refine R.re (by simp [hl]) (fun j d h => ?_) (fun j => if j = 0 then l.length else j - 1) (fun j c h => ?_) (fun i j c e h1 h2 q => ?_)
  · rcases get_cons h with ⟨rfl, rfl⟩ | ⟨i, rfl, g⟩
    · obtain ⟨v, h1, h2⟩ := R.val l.length d get_last
      rw [hl, get_last] at h1
      exact ⟨v, by simpa using h1, h2⟩
    · obtain ⟨v, h1, h2⟩ := R.val i d (get_init g)
      rw [List.getElem?_append_left (by rw [← hl]; exact (List.getElem?_eq_some_iff.mp g).1)] at h1
      exact ⟨v, by simpa using h1, h2⟩
  · rcases get_cons h with ⟨rfl, rfl⟩ | ⟨i, rfl, g⟩
    · rw [if_pos rfl]
      exact ⟨get_last, by rw [hl, get_last]; rfl⟩
    · rw [if_neg (by omega)]
      refine ⟨get_init g, ?_⟩
      rw [show i + 1 - 1 = i from rfl, List.getElem?_append_left (by rw [← hl]; exact (List.getElem?_eq_some_iff.mp g).1)]
      rfl
  · rcases get_cons h1 with ⟨rfl, _⟩ | ⟨i', rfl, g1⟩ <;> rcases get_cons h2 with ⟨rfl, _⟩ | ⟨j', rfl, g2⟩
    · rfl
    · rw [if_pos rfl, if_neg (by omega)] at q
      have := (List.getElem?_eq_some_iff.mp g2).1
      omega
    · rw [if_pos rfl, if_neg (by omega)] at q
      have := (List.getElem?_eq_some_iff.mp g1).1
      omega
    · rw [if_neg (by omega), if_neg (by omega)] at q
      omega
theorem Rep.tor (R : Rep T (s :: l) (o :: m) G H) : Rep T (l ++ [s]) (m ++ [o]) G H := by
  have hl : l.length = m.length := by simpa using R.len
  refine R.re (by simp [hl]) (fun j d h => ?_) (fun j => if j = l.length then 0 else j + 1) (fun j c h => ?_) (fun i j c e h1 h2 q => ?_)
  · rcases get_app h with h | ⟨rfl, rfl⟩
    · obtain ⟨v, h1, h2⟩ := R.val (j + 1) d (by simpa using h)
      exact ⟨v, get_init (by simpa using h1), h2⟩
    · obtain ⟨v, h1, h2⟩ := R.val 0 d rfl
      refine ⟨v, ?_, h2⟩
      rw [hl, get_last]
      simpa using h1
  · rcases get_app h with h | ⟨rfl, rfl⟩
    · have hj := (List.getElem?_eq_some_iff.mp h).1
      rw [if_neg (by omega)]
      refine ⟨by simpa using h, ?_⟩
      rw [List.getElem?_append_left (by omega)]
      rfl
    · rw [if_pos rfl]
      exact ⟨rfl, by rw [hl, get_last]; rfl⟩
  · rcases get_app h1 with h1 | ⟨e1, _⟩ <;> rcases get_app h2 with h2 | ⟨e2, _⟩
    · have := (List.getElem?_eq_some_iff.mp h1).1
      have := (List.getElem?_eq_some_iff.mp h2).1
      rw [if_neg (by omega), if_neg (by omega)] at q
      omega
    · have := (List.getElem?_eq_some_iff.mp h1).1
      rw [if_neg (by omega), if_pos e2] at q
      omega
    · have := (List.getElem?_eq_some_iff.mp h2).1
      rw [if_pos e1, if_neg (by omega)] at q
      omega
    · omega
theorem fpE_rot (hl : l.length = m.length) {b : Addr} : FpE (s :: l) (o :: m) H b ↔ FpE (l ++ [s]) (m ++ [o]) H b := by
  constructor
  · rintro ⟨j, c, a, h1, h2, h3⟩
    rcases get_cons h1 with ⟨rfl, rfl⟩ | ⟨i, rfl, h1⟩
    · refine ⟨l.length, c, a, get_last, ?_, h3⟩
      rw [hl, get_last]
      simpa using h2
    · exact ⟨i, c, a, get_init h1, get_init (by simpa using h2), h3⟩
  · rintro ⟨j, c, a, h1, h2, h3⟩
    rcases get_app h1 with h1 | ⟨rfl, rfl⟩
    · have hj := (List.getElem?_eq_some_iff.mp h1).1
      rw [List.getElem?_append_left (by omega)] at h2
      exact ⟨j + 1, c, a, by simpa using h1, by simpa using h2, h3⟩
    · rw [hl, get_last] at h2
      exact ⟨0, c, a, rfl, by simpa using h2, h3⟩
end
section
variable {X : Cx} {T : Tx} {W : WX} {Γ : Nat → FS} {CX : CXT} {k : Nat} {f C : Addr} {fd : FuncData} {ps : List Str} {sp : Sp} {dvs : List V} {dsv : List Value} {E : L2.St → XK} {x : Str} {e : Expr} {es : List Expr} {p pos : Pos} {t : TA}
theorem run_makeSD {pins : List (Addr × Obj)} {σ : L2.St} {H : Hp} {s : Shared} {Q : VK} {us : List Value} {vs : List V} (M : Mk X.K C f) (F : FnOk X.prog X.w X.K X.mg X.base CX k f fd ps sp) (hr : Room (k + 1) X.A) (hb : Binds X.K fd ps dsv) (hd : Vals dvs dsv) (hx : PassesAt CX X σ (E σ)) (I : Inv X pins σ H s) (r : Vals vs us)
    (h : ∀ x dx, H x = none → H dx = none → dx ≠ x → sp (.ref x :: (vs ++ dvs)) (upd (upd H dx (.own x)) x (.ins C dx [])) (fun v H2 => v = .non ∧ Q (.ref x) H2) (E σ)) : wpAny (model X.prog X.w) X.A (call (.ref C) us) (EP X pins σ Q) X.xe s := by
  have hq := h (s.heap.objs.size + 1) s.heap.objs.size (I.hok.fresh (Nat.le_succ _)) (I.hok.fresh (Nat.le_refl _)) (Nat.ne_of_lt (Nat.lt_succ_self _))
  have I2 := Inv.made (C := C) I
  have r2 : Vals (V.ref (s.heap.objs.size + 1) :: (vs ++ dvs)) (Value.ref (s.heap.objs.size + 1) :: (us ++ dsv)) := .cons rfl (r.append hd)
  have hl : (Value.ref (s.heap.objs.size + 1) :: us ++ dsv).length = ps.length := by
    have e := r2.length
    rw [F.len _ _ _ _ hq] at e
    exact e.symm
  refine wpAny_call (make_map (f := f) I.kIn M.makes M.init (beq_iff_eq.mp M.fn) (codeAny_mono (F.run _ X.stack _ _ ⟨Value.ref (s.heap.objs.size + 1) :: us, []⟩ (Value.ref (s.heap.objs.size + 1) :: (us ++ dsv)) _ _ (E σ) (hr.make C us [])
    (I2.env0.make C us []) (hb _ (Value.ref (s.heap.objs.size + 1) :: us) I2.kIn hl) r2 hq) fun r s' hq' => ?_))
  cases r with
  | error e => exact hx pins _ _ e s' I2 hq'
  | ok fl =>
    cases fl with
    | ret u =>
      obtain ⟨v, H', I3, rv, ev, q3⟩ := I2.after hq'
      subst ev
      exact ⟨rv, ⟨V.ref (s.heap.objs.size + 1), H', I3, rfl, q3⟩⟩
    | next => exact False.elim hq'
    | brk => exact False.elim hq'
    | cont => exact False.elim hq'
def tMakeSD (C : Addr) (sp : Sp) (dvs : List V) (E : L2.St → XK) (t : TA) : TE := fun σ H Q => t σ H fun vs H1 => ∀ x dx, H1 x = none → H1 dx = none → dx ≠ x → sp (.ref x :: (vs ++ dvs)) (upd (upd H1 dx (.own x)) x (.ins C dx [])) (fun v H2 => v = .non ∧ Q (.ref x) H2) (E σ)
theorem pe_makeSD (M : Mk X.K C f) (F : FnOk X.prog X.w X.K X.mg X.base CX k f fd ps sp) (hr : Room (k + 1) X.A) (hg : Gl X x) (hm : X.mg x = some (.ref C)) (hb : Binds X.K fd ps dsv) (hd : Vals dvs dsv) (hx : ∀ σ, PassesAt CX X σ (E σ)) (ha : PA X (e :: es) t)
    (hdb : (x == ("__debug__" : Str)) = false) (he : starEach (e :: es) X.env = (false, eval e X.env) :: starEach es X.env) (hpl : (backTo pos (starEach es X.env)).any (·.1) = false) : PE X (.Call (.Name x p) (e :: es) [] pos) (tMakeSD C sp dvs E t) := by
  refine ⟨fun pins s σ H Q I h => ?_⟩
  refine wpAny_Call_Name_kw (ld_glob I hg hm ?_ hdb)
  refine PySem.W.callWith_K (h₀ := X.base) I.ok.mod.kin M.kp (thn (ha.run pos pins s σ H _ I h) fun us s1 ⟨vs, H1, I1, r, q⟩ => ⟨I1.kIn, ?_⟩) he hpl
  exact run_makeSD M F hr hb hd (hx σ) I1 r q
variable {fi c : Nat} {dds : List D} {irs : List IE}
/-- the promise of __init__, met at a new object -/
theorem make_sp {n : Nat} {ρ : Env} {σ : L2.St} {G H : Hp} {rs : List Res} {vs : List V} {Qp : Res → Env → Prop} {Ep : Xc → Env → Prop} {Q : VK} (R : Rep T ρ σ G H) (o : OpdsAt T G σ rs vs) (nd : (slotsIn rs).Nodup) (hn : Ar n (Γ fi)) (ob : ObOk T c)
    (w : Γ fi (.own (.obj c []) :: rs.map (slR ρ)) (fun r ss => match r, ss with | .val .non, .own (.obj c2 fs) :: ss => c2 = c ∧ Qp (.own (.obj c fs)) (back1 rs ss ρ) | _, _ => False) (fun x ss => Ep x (back1 rs ss.tail ρ)))
    (hq : ∀ r v ρ' G' H', Step (FpE ρ σ H) (FpR ρ' σ r v H') G H G' H' → RepR T ρ' σ r v G' H' → Qp r ρ' → Q v H') (he : dX T W ρ σ G H Ep) {x dx : Addr} (nx : H x = none) (ndx : H dx = none) (ne : dx ≠ x) :
    spF T n (Γ fi) (.ref x :: vs) (upd (upd H dx (.own x)) x (.ins (T.cl c) dx [])) (fun v H2 => v = .non ∧ Q (.ref x) H2) (WE W σ) := by
  have n1 : New G H G (upd H dx (.own x)) := New.fresh R.sub ndx
  have n2 : New G (upd H dx (.own x)) G (upd (upd H dx (.own x)) x (.ins (T.cl c) dx [])) := New.fresh n1.sub (by rw [upd_ne (Ne.symm ne)]; exact nx)
  have n3 := n1.trans n2
  have RA := R.args o nd
  have RB := RA.grow n3
  have gx : G x = none := R.sub.free nx
  have hl : (rs.map (slR ρ)).length = (vs.map some).length := by simp [opds_len o]
  have RC : Rep T (rs.map (slR ρ) ++ [.own (.obj c [])]) (vs.map some ++ [some (.ref x)]) G (upd (upd H dx (.own x)) x (.ins (T.cl c) dx [])) := by
    refine RB.push ⟨dx, [], upd_same, ⟨ob, fun p hp => (by cases hp)⟩, rfl⟩ (fun b hb => ?_) (fun b hb z => ?_)
    · cases hb; exact gx
    · cases hb
      rcases (RA.growStep n3).fp x z with z | z
      · obtain ⟨u, hu, _⟩ := FpE.there RA z
        rw [nx] at hu
        cases hu
      · obtain ⟨i, c', a, h1, h2, h3⟩ := ‹FpE (rs.map (slR ρ)) (vs.map some) _ x›
        obtain ⟨u, hu, _⟩ := FpE.there RA ⟨i, c', a, h1, h2, fp_back RA n3.hs h1 h2 h3⟩
        rw [nx] at hu
        cases hu
  have S0 : Step (FpE (rs.map (slR ρ)) (vs.map some) H) (FpE (.own (.obj c []) :: rs.map (slR ρ)) (some (.ref x) :: vs.map some) (upd (upd H dx (.own x)) x (.ins (T.cl c) dx []))) G H G (upd (upd H dx (.own x)) x (.ins (T.cl c) dx [])) := by
    have S1 := RA.growStep n3
    refine ⟨S1.gs, S1.gn, S1.fr, fun b hb => ?_⟩
    rcases fpE_push RB ((fpE_rot hl).mp hb) with hb | hb
    · exact S1.fp b hb
    · cases hb; exact .inr nx
  refine ⟨by have := hn _ _ _ w; simpa [opds_len o] using this, _, G, _, _, RC.rot, w, fun r ss q hr hls v G' H' S R' => ?_, fun y ss q hls cls d G' H' S R' xa => ?_⟩
  · have S2 := S0.trans S
    split at q
    · rename_i c2 fs ss
      obtain ⟨rfl, q⟩ := q
      have hls2 : ss.length = rs.length := by simpa using hls
      have hlv : ss.length = (vs.map some).length := by rw [hls2]; simp [opds_len o]
      have R2 : Rep T (ss ++ [.own (.obj c2 fs)]) (vs.map some ++ [some (.ref x)]) G' H' := R'.1.tor
      have S3 : Step (FpE (rs.map (slR ρ)) (vs.map some) H) (FpR ss (vs.map some) (.own (.obj c2 fs)) (.ref x) H') G H G' H' := ⟨S2.gs, S2.gn, S2.fr, fun b hb => S2.fp b ((fpE_rot hlv).mpr hb)⟩
      obtain ⟨R4, S4⟩ := R.called (r := .own (.obj c2 fs)) (v := .ref x) o nd hls2 (fun i z => by cases z) S3 ⟨⟨x, rfl⟩, R2⟩
      exact ⟨R'.2, hq _ _ _ G' H' S4 R4 q⟩
    · exact q.elim
  · have S2 := S0.trans S
    cases ss with
    | nil => simp at hls
    | cons s0 ss =>
      have hls2 : ss.length = rs.length := by simpa using hls
      have hlv : ss.length = (vs.map some).length := by rw [hls2]; simp [opds_len o]
      have R2 : Rep T ss (vs.map some) G' H' := (Rep.tor (s := s0) R').init
      have S3 : Step (FpE (rs.map (slR ρ)) (vs.map some) H) (FpE ss (vs.map some) H') G H G' H' := S2.weak fun b hb => (fpE_rot hlv).mpr (fpE_init hlv hb)
      obtain ⟨⟨R4, _⟩, S4⟩ := R.called (r := .val .bot) (v := .non) o nd hls2 (fun i z => by cases z) S3 ⟨R2, trivial⟩
      exact he y cls d _ G' H' S4 R4 xa q
theorem slotsIn_app : ∀ {rs : List Res} {ds : List D}, slotsIn (rs ++ ds.map Res.val) = slotsIn rs
  | [], [] => rfl
  | [], _ :: ds => slotsIn_app (rs := []) (ds := ds)
  | .val _ :: rs, ds => slotsIn_app (rs := rs) (ds := ds)
  | .own _ :: rs, ds => slotsIn_app (rs := rs) (ds := ds)
  | .slot i :: rs, ds => congrArg (i :: ·) (slotsIn_app (rs := rs) (ds := ds))
theorem se_make (M : Mk X.K (T.cl c) f) (ob : ObOk T c) (F : FnOk X.prog X.w X.K X.mg X.base (L2.CX X.prog X.w) k f fd ps (spF T ps.length (Γ fi))) (hr : Room (k + 1) X.A) (hg : Gl X x) (hm : X.mg x = some (.ref (T.cl c))) (hb : Binds X.K fd ps dsv) (hd : Vals dvs dsv) (hdd : ∀ G, Dps T G dds dvs) (tk : Takes X W) (hA : Ar ps.length (Γ fi))
    (ha : SA X T W Γ (e :: es) irs) (hdb : (x == ("__debug__" : Str)) = false) (hst : starEach (e :: es) X.env = (false, eval e X.env) :: starEach es X.env) (hpl : (backTo pos (starEach es X.env)).any (·.1) = false) :
    SE X T W Γ (.Call (.Name x p) (e :: es) [] pos) (.make c fi irs dds) := by
  refine pe_weak (pe_makeSD (E := WE W) M F hr hg hm hb hd (fun σ => passAt tk σ) ha hdb hst hpl) fun σ H Q ⟨ρ, G, Qp, Ep, R, w, hq, he⟩ => ?_
  refine ⟨ρ, G, _, Ep, R, w, fun rs vs ρ1 G1 H1 S1 R1 o1 q1 => fun y dx ny ndx ne => ?_, he⟩
  exact make_sp R1 (opds_app o1 (hdd G1)) (by rw [slotsIn_app]; exact q1.1) hA ob q1.2 (fun r v ρ2 G2 H2 S2 R2 q2 => hq r v ρ2 G2 H2 (S1.trans S2) R2 q2) (he.next S1) ny ndx ne
end
end Mi
namespace Mi
open PySem PySem.Spec PyProof.Rows L2
/-! ### what is walked -/
def SrcAt (g : Option Nat) (all : List D) (a : Addr) (ρ : Env) (σ : L2.St) : Prop := match g with
  | none => True
  | some i => ρ[i]? = some (.own (.lst all)) ∧ σ[i]? = some (some (.ref a))
structure Walk (T : Tx) (g : Option Nat) (ds : List D) (a : Addr) (J : It) (G0 : Hp) : Prop where
  go : ∀ (i : Nat) ρ σ G H, i < ds.length → Rep T ρ σ G H → Same G0 G → SrcAt g ds a ρ σ → J.go i H
  stop : ∀ ρ σ G H, Rep T ρ σ G H → Same G0 G → SrcAt g ds a ρ σ → J.stop ds.length H
  yld : ∀ (i : Nat) ρ σ G H x H', i < ds.length → Rep T ρ σ G H → Same G0 G → SrcAt g ds a ρ σ → J.yld i H x H' → ∃ G' d, New G H G' H' ∧ ds[i]? = some d ∧ Dp T G' d x
  len : ds.length ≤ sizeLine
abbrev WI := Env → (Option Nat → List D → Env → Prop) → (Xc → Env → Prop) → Prop
def dI (T : Tx) (W : WX) (w : WI) : TI := fun σ H R => ∃ (ρ : Env) (G : Hp) (Qp : Option Nat → List D → Env → Prop) (Ep : Xc → Env → Prop), Rep T ρ σ G H ∧ w ρ Qp Ep ∧
  (∀ g ds ρ' G' H' J a, Step (FpE ρ σ H) (FpE ρ' σ H') G H G' H' → Rep T ρ' σ G' H' → SrcAt g ds a ρ' σ → Walk T g ds a J G' → Qp g ds ρ' → R J H') ∧ dX T W ρ σ G H Ep
section
variable {X : Cx} {T : Tx} {W : WX} {Γ : Nat → FS} {tg : Expr}
theorem pi_weak {e : Expr} {t t' : TI} (h : PI X tg e t) (k : ∀ σ H R, t' σ H R → t σ H R) : PI X tg e t' := ⟨fun pins s σ H Q I q => h.run pins s σ H Q I (k σ H Q q)⟩
abbrev SI (X : Cx) (T : Tx) (W : WX) (Γ : Nat → FS) (tg e : Expr) (ir : II) : Prop := PI X tg e (dI T W (wpI Γ ir))
/-- a list, a tuple, a text, the keys of a locked dict: by values -/
def ItV (K : PySem.W.Frag) (x : V) (H : Hp) (R : It → Hp → Prop) : Prop :=
  (∃ a, x = .ref a ∧ (∃ xs, SqL K H a xs) ∧ R (Itl K a) H) ∨ (∃ a, x = .ref a ∧ (∃ xs, SqT K H a xs) ∧ R (Itt K a) H) ∨ (∃ z, x = .str z ∧ R (Its z) H) ∨
  (∃ d o kvs, x = .ref d ∧ H d = some (.frz o (.dK kvs)) ∧ R (Itk d o kvs) H) ∨ (∃ d o kvs, x = .ref d ∧ H d = some (.frz o (.dT kvs)) ∧ R (Itkt d o kvs) H)
theorem it_any {pins : List (Addr × Obj)} {σ : L2.St} {H : Hp} {s : Shared} {x : V} {u : Value} {R : It → Hp → Prop} (I : Inv X pins σ H s) (rx : RelV x u) (h : ItV X.K x H R) : wpAny (model X.prog X.w) X.A (pyIter u) (PIE X pins σ tg R) X.xe s := by
  rcases h with ⟨a, rfl, ⟨xs, hq⟩, q⟩ | ⟨a, rfl, ⟨xs, hq⟩, q⟩ | ⟨z, rfl, q⟩ | ⟨d, o, kvs, rfl, hd, q⟩ | ⟨d, o, kvs, rfl, hd, q⟩
  · cases rx
    obtain ⟨its, rv, p, hz⟩ := I.list hq
    exact wpAny_pyIter_list p.isList (pi_one (tk := s.toks) I _ (turn_list a _) ⟨_, Heap.get?_push_size _ rfl, rfl, rfl⟩ q)
  · cases rx
    obtain ⟨its, rv, p, hz⟩ := I.tuple hq
    exact wpAny_pyIter_tuple (show s.heap.IsTuple a its.toArray from p) (pi_one (tk := s.toks) I _ (turn_tuple a _) ⟨_, Heap.get?_push_size _ rfl, rfl, rfl⟩ q)
  · obtain ⟨t, rfl⟩ := rx
    cases ha : z.cps.all (· < 128)
    · exact wpAny_pyIter_wide ha (pi_one (tk := s.toks) I _ (turn_str _ z t "str_iterator" (.inr rfl)) ⟨_, Heap.get?_push_size _ rfl, rfl, rfl⟩ q)
    · exact wpAny_pyIter_ascii ha (pi_one (tk := s.toks) I _ (turn_str _ z t "str_ascii_iterator" (.inl rfl)) ⟨_, Heap.get?_push_size _ rfl, rfl, rfl⟩ q)
  · cases rx
    obtain ⟨hs, hgd, hx, es, ep, vs, hdt, hsz, kv, hm⟩ := I.frzK hd
    refine iter_keys hs hgd hx hdt (pi_one (tk := s.toks) I _ (turn_keys _ hdt) ⟨_, Heap.get?_push_size _ rfl, rfl, ?_⟩ q)
    rw [hsz] <;> rfl
  · cases rx
    obtain ⟨hs, hgd, hx, es, ep, hdt, hsz, ent⟩ := I.frzT hd
    refine iter_keys hs hgd hx hdt (pi_one (tk := s.toks) I _ (turn_keysT _ hdt) ⟨_, Heap.get?_push_size _ rfl, rfl, ?_⟩ q)
    rw [hsz] <;> rfl
theorem pi_any {e : Expr} {te : TE} (he : PE X e te) : PI X tg e (fun σ H R => te σ H fun x H1 => ItV X.K x H1 R) :=
  ⟨fun pins s σ H R I h => thn (he.run pins s σ H _ I h) fun v s1 ⟨x, H1, I1, r1, q⟩ => it_any I1 r1 q⟩
theorem walk_list {G0 : Hp} {ds : List D} {vs : List V} {a : Addr} (h1 : SqL T.K G0 a vs) (h2 : Dps T G0 ds vs) (hl : ds.length ≤ sizeLine) : Walk T none ds a (Itl T.K a) G0 where
  go := fun i ρ σ G H hi R sg _ => by
    have : i < vs.length := by rw [h2.len]; exact hi
    exact ⟨vs, vs[i], sqL_mono (sg.trans R.sub) h1, by simp [this]⟩
  stop := fun ρ σ G H R sg _ => ⟨vs, sqL_mono (sg.trans R.sub) h1, by rw [h2.len]; exact Nat.le_refl _⟩
  yld := fun i ρ σ G H x H' hi R sg _ y => by
    obtain ⟨rfl, y⟩ := y
    have hd : ds[i]? = some ds[i] := by simp [hi]
    obtain ⟨v, e, dv⟩ := h2.get hd
    have e2 := y vs (sqL_mono (sg.trans R.sub) h1)
    rw [e] at e2
    cases e2
    exact ⟨G, _, New.refl R.sub, hd, dv.mono sg⟩
  len := hl
theorem walk_slot {G0 : Hp} {ds : List D} {a : Addr} {i : Nat} (hl : ds.length ≤ sizeLine) : Walk T (some i) ds a (Itl T.K a) G0 := by
  have key : ∀ {ρ σ G H}, Rep T ρ σ G H → SrcAt (some i) ds a ρ σ → ∃ vs, H a = some (.lst vs) ∧ Dps T G ds vs := fun {ρ σ G H} R s => by
    obtain ⟨a', h1, vs, h2, h3⟩ := R.own i _ s.1
    rw [s.2] at h1
    cases h1
    exact ⟨vs, h2, h3⟩
  refine ⟨fun j ρ σ G H hj R sg s => ?_, fun ρ σ G H R sg s => ?_, fun j ρ σ G H x H' hj R sg s y => ?_, hl⟩
  · obtain ⟨vs, h1, h2⟩ := key R s
    have : j < vs.length := by rw [h2.len]; exact hj
    exact ⟨vs, vs[j], SqL.of h1, by simp [this]⟩
  · obtain ⟨vs, h1, h2⟩ := key R s
    exact ⟨vs, SqL.of h1, by rw [h2.len]; exact Nat.le_refl _⟩
  · obtain ⟨vs, h1, h2⟩ := key R s
    obtain ⟨rfl, y⟩ := y
    have hd : ds[j]? = some ds[j] := by simp [hj]
    obtain ⟨v, e, dv⟩ := h2.get hd
    have e2 := y vs (SqL.of h1)
    rw [e] at e2
    cases e2
    exact ⟨G, _, New.refl R.sub, hd, dv⟩
theorem walk_tup {G0 : Hp} {ds : List D} {vs : List V} {a : Addr} (h1 : SqT T.K G0 a vs) (h2 : Dps T G0 ds vs) (hl : ds.length ≤ sizeLine) : Walk T none ds a (Itt T.K a) G0 where
  go := fun i ρ σ G H hi R sg _ => by
    have : i < vs.length := by rw [h2.len]; exact hi
    exact ⟨vs, vs[i], sqT_mono (sg.trans R.sub) h1, by simp [this]⟩
  stop := fun ρ σ G H R sg _ => ⟨vs, sqT_mono (sg.trans R.sub) h1, by rw [h2.len]; exact Nat.le_refl _⟩
  yld := fun i ρ σ G H x H' hi R sg _ y => by
    obtain ⟨rfl, y⟩ := y
    have hd : ds[i]? = some ds[i] := by simp [hi]
    obtain ⟨v, e, dv⟩ := h2.get hd
    have e2 := y vs (sqT_mono (sg.trans R.sub) h1)
    rw [e] at e2
    cases e2
    exact ⟨G, _, New.refl R.sub, hd, dv.mono sg⟩
  len := hl
theorem walk_str {G0 : Hp} {z : Str} (ok : okS z = true) (hl : z.length ≤ sizeLine) : Walk T none (z.cps.toList.map fun c => D.str ⟨#[c]⟩) 0 (Its z) G0 where
  go := fun i ρ σ G H hi R sg _ => by
    show i < z.cps.size
    simpa using hi
  stop := fun ρ σ G H R sg _ => by show z.cps.size ≤ _; simp
  yld := fun i ρ σ G H x H' hi R sg _ y => by
    obtain ⟨rfl, c, e, rfl⟩ := y
    have e2 : z.cps.toList[i]? = some c := by rw [Array.getElem?_toList]; exact e
    exact ⟨G, .str ⟨#[c]⟩, New.refl R.sub, by rw [List.getElem?_map, e2]; rfl, rfl, okS_one ok (List.mem_of_getElem? e2)⟩
  len := by rw [List.length_map, Array.length_toList]; exact hl
theorem walk_keys {G0 : Hp} {ds : List (Ky × D)} {vs : List (Key × V)} {a : Addr} {o : Obj} (h1 : G0 a = some (.frz o (.dK vs))) (h2 : DpK T G0 ds vs) (hl : ds.length ≤ sizeLine) : Walk T none (ds.map fun kv => kD kv.1) a (Itk a o vs) G0 := by
  have h3 := keys_dp h2
  have hlen : vs.length = ds.length := by simpa using h3.len
  refine ⟨fun i ρ σ G H hi R sg _ => ⟨R.sub _ _ (sg _ _ h1), by rw [hlen]; simpa using hi⟩, fun ρ σ G H R sg _ => ⟨R.sub _ _ (sg _ _ h1), by rw [hlen]; simp⟩, fun i ρ σ G H x H' hi R sg _ y => ?_, by simpa using hl⟩
  obtain ⟨rfl, k, v, e, rfl⟩ := y
  have hd : (ds.map fun kv => kD kv.1)[i]? = some (ds.map fun kv => kD kv.1)[i] := List.getElem?_eq_getElem hi
  obtain ⟨w, e2, dw⟩ := h3.get hd
  rw [List.getElem?_map, e] at e2
  cases e2
  exact ⟨G, _, New.refl R.sub, hd, dw.mono sg⟩
theorem DpT.get {G : Hp} : ∀ {ds : List (List Ky × D)} {vs : List (List Key × V)} {i : Nat} {k : List Key} {v : V}, DpT T G ds vs → vs[i]? = some (k, v) → ∃ d, ds[i]? = some (k, d) ∧ k.all okK = true ∧ Dp T G d v
  | [], _, _, _, _, h, e => by cases h; simp at e
  | (k', d) :: ds, _, 0, k, v, ⟨w, wr, h1, h2, h3⟩, e => by subst h1; simp at e; obtain ⟨rfl, rfl⟩ := e; exact ⟨d, rfl, h2.1, h2.2⟩
  | (k', d) :: ds, _, i + 1, k, v, ⟨w, wr, h1, h2, h3⟩, e => by
    subst h1
    obtain ⟨d', q1, q2⟩ := DpT.get (i := i) (k := k) (v := v) h3 (by simpa using e)
    exact ⟨d', by simpa using q1, q2⟩
theorem DpT.len {G : Hp} : ∀ {ds : List (List Ky × D)} {vs : List (List Key × V)}, DpT T G ds vs → vs.length = ds.length
  | [], _, h => by cases h; rfl
  | (_, _) :: ds, _, ⟨_, _, h1, _, h3⟩ => by subst h1; simp [DpT.len h3]
theorem walk_keysT {G0 : Hp} {ds : List (List Ky × D)} {vs : List (List Key × V)} {a : Addr} {o : Obj} (h1 : G0 a = some (.frz o (.dT vs))) (h2 : DpT T G0 ds vs) (hl : ds.length ≤ sizeLine) : Walk T none (ds.map fun kv => .tup (kv.1.map kD)) a (Itkt a o vs) G0 := by
  have hlen := h2.len
  refine ⟨fun i ρ σ G H hi R sg _ => ⟨R.sub _ _ (sg _ _ h1), by rw [hlen]; simpa using hi⟩, fun ρ σ G H R sg _ => ⟨R.sub _ _ (sg _ _ h1), by rw [hlen]; simp⟩, fun i ρ σ G H x H' hi R sg _ y => ?_, by simpa using hl⟩
  obtain ⟨rfl, k, v, q, e, rfl, hq⟩ := y
  obtain ⟨d, e2, ok, _⟩ := h2.get e
  refine ⟨upd G q (.tup (k.map kV)), .tup (k.map kD), New.tup R.sub hq, by rw [List.getElem?_map, e2]; rfl, q, k.map kV, rfl, .inl upd_same, key_dp ok⟩
theorem dict_small {pins : List (Addr × Obj)} {σ : L2.St} {H : Hp} {s : Shared} {a : Addr} {xs : List V} (I : Inv X pins σ H s) (h : SqL X.K H a xs) : xs.length ≤ sizeLine := let ⟨_, _, _, z⟩ := I.list h; z
/-- sizes are known to the heap: a reading may ask for them -/
theorem pe_sizes {e : Expr} {t : TE} (h : PE X e t) : PE X e (fun σ H Q => t σ H fun v H1 => (∀ a xs, SqL X.K H1 a xs → xs.length ≤ sizeLine) → (∀ a xs, SqT X.K H1 a xs → xs.length ≤ sizeLine) → (∀ a kvs, Rd H1 a (.dK kvs) → kvs.length ≤ sizeLine) → (∀ a kvs, Rd H1 a (.dT kvs) → kvs.length ≤ sizeLine) → Q v H1) := by
  refine ⟨fun pins s σ H Q I q => thn (h.run pins s σ H _ I q) fun w s1 ⟨v, H1, I1, r1, q1⟩ => ?_⟩
  refine ⟨v, H1, I1, r1, q1 (fun a xs h => let ⟨_, _, _, z⟩ := I1.list h; z) (fun a xs h => let ⟨_, _, _, z⟩ := I1.tuple h; z) (fun a kvs h => ?_) (fun a kvs h => ?_)⟩
  · obtain ⟨z, _⟩ := h.ok I1.hok; exact z
  · obtain ⟨z, _⟩ := h.ok I1.hok; exact z
theorem si_it {e : Expr} {ir : IE} (hK : X.K = T.K) (h : SE X T W Γ e ir) : SI X T W Γ tg e (.it ir) := by
  refine pi_weak (pi_any (pe_sizes (pe_opd h))) fun σ H R0 ⟨ρ, G, Qp, Ep, R, w, hq, he⟩ => ?_
  refine ⟨ρ, G, _, Ep, R, w, fun x v ρ1 G1 H1 S1 R1 o1 q1 z1 z2 z3 z4 => ?_, he⟩
  rw [hK] at z1 z2 ⊢
  have val : ∀ (d : D), Dp T G1 d v → (match D.items d with | some ds => Qp none ds ρ1 | none => False) → ItV T.K v H1 R0 := fun d dv q => by
    split at q
    · rename_i ds ed
      cases d with
      | lst xs =>
        cases ed
        obtain ⟨a, vs, rfl, h1, h2⟩ := dv
        have hs : SqL T.K H1 a vs := sqL_mono R1.sub h1
        exact .inl ⟨a, rfl, ⟨vs, hs⟩, hq none _ ρ1 G1 H1 _ a S1 R1 trivial (walk_list h1 h2 (by rw [← h2.len]; exact z1 a vs hs)) q⟩
      | tup xs =>
        cases ed
        obtain ⟨a, vs, rfl, h1, h2⟩ := dv
        have hs : SqT T.K H1 a vs := sqT_mono R1.sub h1.sq
        exact .inr (.inl ⟨a, rfl, ⟨vs, hs⟩, hq none _ ρ1 G1 H1 _ a S1 R1 trivial (walk_tup h1.sq h2 (by rw [← h2.len]; exact z2 a vs hs)) q⟩)
      | ftp xs =>
        cases ed
        obtain ⟨a, o, vs, rfl, h1, h2⟩ := dv
        have h0 : SqT T.K G1 a vs := .inl (.inr ⟨o, h1.1⟩)
        have hs : SqT T.K H1 a vs := sqT_mono R1.sub h0
        exact .inr (.inl ⟨a, rfl, ⟨vs, hs⟩, hq none _ ρ1 G1 H1 _ a S1 R1 trivial (walk_tup h0 h2 (by rw [← h2.len]; exact z2 a vs hs)) q⟩)
      | str z =>
        obtain ⟨rfl, ok⟩ := dv
        have ed2 : (if z.length ≤ big then some (z.cps.toList.map fun c => D.str ⟨#[c]⟩) else none) = some ds := ed
        split at ed2
        · rename_i hz
          cases ed2
          exact .inr (.inr (.inl ⟨z, rfl, hq none _ ρ1 G1 H1 _ 0 S1 R1 trivial (walk_str ok (by rw [← big_eq]; exact hz)) q⟩))
        · cases ed2
      | dK kvs =>
        cases ed
        obtain ⟨a, o, ws, rfl, h1, h2⟩ := dv
        have hl : ws.length = kvs.length := by simpa using (keys_dp h2).len
        exact .inr (.inr (.inr (.inl ⟨a, o, ws, rfl, R1.sub _ _ h1, hq none _ ρ1 G1 H1 _ a S1 R1 trivial (walk_keys h1 h2 (by rw [← hl]; exact z3 a ws (.inr ⟨o, R1.sub _ _ h1⟩))) q⟩)))
      | dT kvs =>
        cases ed
        obtain ⟨a, o, ws, rfl, h1, h2⟩ := dv
        exact .inr (.inr (.inr (.inr ⟨a, o, ws, rfl, R1.sub _ _ h1, hq none _ ρ1 G1 H1 _ a S1 R1 trivial (walk_keysT h1 h2 (by rw [← h2.len]; exact z4 a ws (.inr ⟨o, R1.sub _ _ h1⟩))) q⟩)))
      | _ => cases ed
    · exact q.elim
  cases x with
  | val d => exact val d o1 q1
  | own c => exact o1.elim
  | slot i =>
    have q2 : (match ρ1[i]? with | some (.own (.lst ds)) => Qp (some i) ds ρ1 | _ => False) := q1
    split at q2
    · rename_i ds ed
      obtain ⟨a, h1, vs, h2, h3⟩ := R1.own i _ ed
      rw [show σ[i]? = some (some v) from o1] at h1
      cases h1
      exact .inl ⟨a, rfl, ⟨vs, SqL.of h2⟩, hq (some i) ds ρ1 G1 H1 _ a S1 R1 ⟨ed, o1⟩ (walk_slot (by rw [← h3.len]; exact z1 a vs (SqL.of h2))) q2⟩
    · exact q2.elim
end
end Mi
namespace Mi
open PySem PySem.Spec PyProof.Rows L2
section
variable {X : Cx} {T : Tx} {W : WX} {Γ : Nat → FS} {ρ ρ' : Env} {σ σ' : L2.St} {G G' H H' : Hp}
/-! ### range, enumerate -/
theorem rngG_len {lo : Int} {n : Nat} : (rngG lo n).length = n := by simp [rngG]
theorem rngG_get {lo : Int} {n i : Nat} (h : i < n) : (rngG lo n)[i]? = some (.int (lo + i)) := by simp [rngG, h]
theorem walk_rng {G0 : Hp} {lo : Int} {n : Nat} (hn : n ≤ sizeLine) : Walk T none (rngG lo n) 0 (Itr lo n) G0 where
  go := fun i ρ σ G H hi R sg _ => by rw [rngG_len] at hi; exact hi
  stop := fun ρ σ G H R sg _ => by show n ≤ _; rw [rngG_len]; exact Nat.le_refl _
  yld := fun i ρ σ G H x H' hi R sg _ y => by
    obtain ⟨rfl, rfl⟩ := y
    rw [rngG_len] at hi
    exact ⟨G, _, New.refl R.sub, rngG_get hi, rfl⟩
  len := by rw [rngG_len]; exact hn
theorem si_rng {tg a : Expr} {ia : IE} {p pos : Pos} (hg : Gl X "range") (hm : X.mg "range" = none) (ha : SA X T W Γ [a] [ia]) (hs : starEach [a] X.env = [(false, eval a X.env)]) : SI X T W Γ tg (.Call (.Name "range" p) [a] [] pos) (.rng ia) := by
  refine pi_weak (pi_range1 hg hm ha hs) fun σ H R0 ⟨ρ, G, Qp, Ep, R, w, hq, he⟩ => ?_
  refine ⟨ρ, G, fun rs ρ2 => match rs with | [x] => (match rdR ρ2 x with | .int n => (-(2 ^ 62) ≤ n ∧ n ≤ big) ∧ Qp none (rngG 0 n.toNat) ρ2 | _ => False) | _ => False, Ep, R, w, fun rs vs ρ1 G1 H1 S1 R1 o1 q1 => ?_, he⟩
  dsimp only at q1
  split at q1
  · rename_i x
    split at q1
    · rename_i n e
      have dq := opds_dq R1 o1
      obtain ⟨v, rfl, d1⟩ := Dqs.one (d := rdR ρ1 x) dq
      rw [e] at d1
      cases d1.int
      obtain ⟨⟨h1, h2⟩, q2⟩ := q1
      have hb : (big : Int) = 16777216 := rfl
      have hsz : sizeLine = 16777216 := sizeLine_eq
      exact ⟨n, rfl, h1, by omega, hq none _ ρ1 G1 H1 _ 0 S1 R1 trivial (walk_rng (by omega)) q2⟩
    · exact q1.elim
  · exact q1.elim
theorem si_rng2 {tg a b : Expr} {ia ib : IE} {p pos : Pos} (hg : Gl X "range") (hm : X.mg "range" = none) (ha : SA X T W Γ [a, b] [ia, ib]) (hs : starEach [a, b] X.env = [(false, eval a X.env), (false, eval b X.env)]) (hs2 : starEach [b] X.env = [(false, eval b X.env)]) : SI X T W Γ tg (.Call (.Name "range" p) [a, b] [] pos) (.rng2 ia ib) := by
  refine pi_weak (pi_range2 hg hm ha hs hs2) fun σ H R0 ⟨ρ, G, Qp, Ep, R, w, hq, he⟩ => ?_
  refine ⟨ρ, G, fun rs ρ4 => match rs with | [x, y] => (match rdR ρ4 x, rdR ρ4 y with | .int lo, .int hi => (-(2 ^ 62) ≤ lo ∧ lo < 2 ^ 62 ∧ -(2 ^ 62) ≤ hi ∧ hi < 2 ^ 62 ∧ hi - lo ≤ big) ∧ Qp none (rngG lo (hi - lo).toNat) ρ4 | _, _ => False) | _ => False, Ep, R, w, fun rs vs ρ1 G1 H1 S1 R1 o1 q1 => ?_, he⟩
  dsimp only at q1
  split at q1
  · rename_i x y
    split at q1
    · rename_i lo hi e1 e2
      have dq := opds_dq R1 o1
      obtain ⟨v, u, rfl, d1, d2⟩ := Dqs.two (d := rdR ρ1 x) (e := rdR ρ1 y) dq
      rw [e1] at d1
      rw [e2] at d2
      cases d1.int; cases d2.int
      obtain ⟨⟨h1, h2, h3, h4, h5⟩, q2⟩ := q1
      have hb : (big : Int) = 16777216 := rfl
      have hsz : sizeLine = 16777216 := sizeLine_eq
      exact ⟨lo, hi, rfl, ⟨h1, h2, h3, h4⟩, hq none _ ρ1 G1 H1 _ 0 S1 R1 trivial (walk_rng (by omega)) q2⟩
    · exact q1.elim
  · exact q1.elim
theorem enumG_len : ∀ (n : Nat) (ds : List D), (enumG n ds).length = ds.length
  | _, [] => rfl
  | n, _ :: ds => by simp [enumG, enumG_len (n + 1) ds]
theorem enumG_get : ∀ (n : Nat) (ds : List D) (i : Nat) (d : D), ds[i]? = some d → (enumG n ds)[i]? = some (.tup [.int ((n + i : Nat) : Int), d])
  | _, [], _, _, h => by simp at h
  | n, x :: ds, 0, d, h => by simp at h; subst h; rfl
  | n, x :: ds, i + 1, d, h => by
    have := enumG_get (n + 1) ds i d (by simpa using h)
    show (enumG (n + 1) ds)[i]? = _
    rw [this]
    have e : n + 1 + i = n + (i + 1) := by omega
    rw [e]
theorem walk_enum {G0 : Hp} {ds : List D} {vs : List V} {a : Addr} (h1 : SqL T.K G0 a vs) (h2 : Dps T G0 ds vs) (hl : ds.length ≤ sizeLine) : Walk T none (enumG 0 ds) a (Ite T.K a) G0 where
  go := fun i ρ σ G H hi R sg _ => by
    rw [enumG_len] at hi
    have : i < vs.length := by rw [h2.len]; exact hi
    exact ⟨vs, vs[i], sqL_mono (sg.trans R.sub) h1, by simp [this]⟩
  stop := fun ρ σ G H R sg _ => ⟨vs, sqL_mono (sg.trans R.sub) h1, by rw [h2.len, enumG_len]; exact Nat.le_refl _⟩
  yld := fun i ρ σ G H x H' hi R sg _ y => by
    rw [enumG_len] at hi
    obtain ⟨t, z, rfl, nt, rfl, y⟩ := y
    have hd : ds[i]? = some ds[i] := by simp [hi]
    obtain ⟨v, e, dv⟩ := h2.get hd
    have e2 := y vs (sqL_mono (sg.trans R.sub) h1)
    rw [e] at e2
    cases e2
    have n := fun w => New.lay (o := .tup [.int (i : Nat), w]) R.sub nt
    refine ⟨_, _, n _, enumG_get 0 ds i _ hd, t, _, rfl, .inl upd_same, ?_⟩
    rw [Nat.zero_add]
    exact ⟨_, _, rfl, rfl, _, _, rfl, dv.mono (sg.trans (n _).gs), rfl⟩
  len := by rw [enumG_len]; exact hl
theorem pa_sizes {es : List Expr} {t : TA} (h : PA X es t) : PA X es (fun σ H Q => t σ H fun v H1 => (∀ a xs, SqL X.K H1 a xs → xs.length ≤ sizeLine) → (∀ a xs, SqT X.K H1 a xs → xs.length ≤ sizeLine) → Q v H1) := by
  refine ⟨fun pos pins s σ H Q I q => thn (h.run pos pins s σ H _ I q) fun w s1 ⟨v, H1, I1, r1, q1⟩ => ?_⟩
  exact ⟨v, H1, I1, r1, q1 (fun a xs h => let ⟨_, _, _, z⟩ := I1.list h; z) (fun a xs h => let ⟨_, _, _, z⟩ := I1.tuple h; z)⟩
theorem si_enum {elts : List Expr} {kk : Nat} {tpos : Pos} {a : Expr} {ia : IE} {p pos : Pos} (hK : X.K = T.K) (hg : Gl X "enumerate") (hm : X.mg "enumerate" = none) (ha : SA X T W Γ [a] [ia]) (hs : starEach [a] X.env = [(false, eval a X.env)]) : SI X T W Γ (.Tuple elts kk tpos) (.Call (.Name "enumerate" p) [a] [] pos) (.enum ia) := by
  refine pi_weak (pi_enum hg hm (pa_sizes ha) hs) fun σ H R0 ⟨ρ, G, Qp, Ep, R, w, hq, he⟩ => ?_
  refine ⟨ρ, G, fun rs ρ2 => match rs with | [x] => (match x with | .val (.lst ds) => Qp none (enumG 0 ds) ρ2 | _ => False) | _ => False, Ep, R, ?_, fun rs vs ρ1 G1 H1 S1 R1 o1 q1 z1 z2 => ?_, he⟩
  · exact w
  · rw [hK] at z1 ⊢
    dsimp only at q1
    split at q1
    · split at q1
      · rename_i ds
        cases o1 with
        | cons h1 h2 =>
          cases h2
          obtain ⟨a, vs, rfl, h3, h4⟩ := h1
          have hs : SqL T.K H1 a vs := sqL_mono R1.sub h3
          exact ⟨a, vs, rfl, hs, hq none _ ρ1 G1 H1 _ a S1 R1 trivial (walk_enum h3 h4 (by rw [← h4.len]; exact z1 a vs hs)) q1⟩
      · exact q1.elim
    · exact q1.elim
/-! ### zip -/
theorem zipG_len : ∀ (xs ys : List D), (zipG xs ys).length = min xs.length ys.length
  | [], _ => by simp [zipG]
  | _ :: _, [] => by simp [zipG]
  | _ :: xs, _ :: ys => by simp only [zipG, List.length_cons, zipG_len xs ys]; omega
theorem zipG_get : ∀ (xs ys : List D) (i : Nat) (x y : D), xs[i]? = some x → ys[i]? = some y → (zipG xs ys)[i]? = some (.tup [x, y])
  | [], _, _, _, _, h, _ => by simp at h
  | _ :: _, [], _, _, _, _, h => by simp at h
  | a :: xs, b :: ys, 0, x, y, h1, h2 => by simp at h1 h2; subst h1; subst h2; rfl
  | a :: xs, b :: ys, i + 1, x, y, h1, h2 => by
    show (zipG xs ys)[i]? = _
    exact zipG_get xs ys i x y (by simpa using h1) (by simpa using h2)
/-- pairs of two walks: their items by place -/
theorem walk_pair {G0 : Hp} {xs ys : List D} {vs us : List V} {a : Addr} {I : L2.It} (h1 : Dps T G0 xs vs) (h2 : Dps T G0 ys us) (hl : xs.length ≤ sizeLine)
    (go : ∀ i H, Same G0 H → i < vs.length → i < us.length → I.go i H) (stop : ∀ i H, Same G0 H → vs.length ≤ i ∨ us.length ≤ i → I.stop i H)
    (yld : ∀ i H v H', Same G0 H → I.yld i H v H' → ∃ t x y, v = .ref t ∧ H t = none ∧ H' = upd H t (.tup [x, y]) ∧ vs[i]? = some x ∧ us[i]? = some y) : Walk T none (zipG xs ys) a I G0 where
  go := fun i ρ σ G H hi R sg _ => by
    rw [zipG_len] at hi
    exact go i H (sg.trans R.sub) (by rw [h1.len]; omega) (by rw [h2.len]; omega)
  stop := fun ρ σ G H R sg _ => by
    refine stop _ H (sg.trans R.sub) ?_
    rw [h1.len, h2.len, zipG_len]
    omega
  yld := fun i ρ σ G H x H' hi R sg _ y => by
    rw [zipG_len] at hi
    obtain ⟨t, z, w, rfl, nt, rfl, y1, y2⟩ := yld i H x H' (sg.trans R.sub) y
    have hx : xs[i]? = some xs[i] := by simp
    have hy : ys[i]? = some ys[i] := by simp
    obtain ⟨v, e, dv⟩ := h1.get hx
    obtain ⟨u, e', du⟩ := h2.get hy
    rw [y1] at e
    rw [y2] at e'
    cases e
    cases e'
    have n := New.lay (o := .tup [z, w]) R.sub nt
    exact ⟨_, _, n, zipG_get xs ys i _ _ hx hy, t, _, rfl, .inl upd_same, _, _, rfl, dv.mono (sg.trans n.gs), _, _, rfl, du.mono (sg.trans n.gs), rfl⟩
  len := by rw [zipG_len]; omega
theorem si_zip {elts : List Expr} {kk : Nat} {tpos : Pos} {a b : Expr} {ia ib : IE} {p pos : Pos} (hK : X.K = T.K) (hg : Gl X "zip") (hm : X.mg "zip" = none) (ha : SA X T W Γ [a, b] [ia, ib]) (hs : starEach [a, b] X.env = (false, eval a X.env) :: starEach [b] X.env) (hpl : (backTo pos (starEach [b] X.env)).any (·.1) = false) :
    SI X T W Γ (.Tuple elts kk tpos) (.Call (.Name "zip" p) [a, b] [] pos) (.zip ia ib) := by
  refine pi_weak (RZ.pi_zipA hg hm (pa_sizes ha) hs hpl) fun σ H R0 ⟨ρ, G, Qp, Ep, R, w, hq, he⟩ => ?_
  refine ⟨ρ, G, fun rs ρ4 => match rs with | [x, y] => (match x, y with | .val (.tup xs), .val (.tup ys) => Qp none (zipG xs ys) ρ4 | .val (.ftp xs), .val (.tup ys) => Qp none (zipG xs ys) ρ4 | .val (.lst xs), .val (.lst ys) => Qp none (zipG xs ys) ρ4 | _, _ => False) | _ => False, Ep, R, w, fun rs vs ρ1 G1 H1 S1 R1 o1 q1 z1 z2 => ?_, he⟩
  rw [hK] at z1 z2 ⊢
  dsimp only at q1
  split at q1
  · cases o1 with
    | cons o1 o2 =>
      cases o2 with
      | cons o2 o3 =>
        cases o3
        split at q1
        · obtain ⟨a, vs, rfl, h1, h2⟩ := o1
          obtain ⟨b, us, rfl, h3, h4⟩ := o2
          have s1 : SqT T.K H1 a vs := sqT_mono R1.sub h1.sq
          have s2 : SqT T.K H1 b us := sqT_mono R1.sub h3.sq
          refine ⟨a, b, vs, us, rfl, .inr ⟨s1, s2, hq none _ ρ1 G1 H1 _ a S1 R1 trivial (walk_pair h2 h4 (by rw [← h2.len]; exact z2 a vs s1) (fun i H sg e1 e2 => ⟨vs, us, vs[i], us[i], sqT_mono sg h1.sq, sqT_mono sg h3.sq, by simp [e1], by simp [e2]⟩) (fun i H sg e => ⟨vs, us, sqT_mono sg h1.sq, sqT_mono sg h3.sq, e⟩) fun i H v H' sg y => ?_) q1⟩⟩
          obtain ⟨t, x, y, e1, e2, e3, e4, e5⟩ := y
          exact ⟨t, x, y, e1, e2, e3, e4 vs (sqT_mono sg h1.sq), e5 us (sqT_mono sg h3.sq)⟩
        · obtain ⟨a, o, vs, rfl, h1, h2⟩ := o1
          obtain ⟨b, us, rfl, h3, h4⟩ := o2
          have h0 : SqT T.K G1 a vs := .inl (.inr ⟨o, h1.1⟩)
          have s1 : SqT T.K H1 a vs := sqT_mono R1.sub h0
          have s2 : SqT T.K H1 b us := sqT_mono R1.sub h3.sq
          refine ⟨a, b, vs, us, rfl, .inr ⟨s1, s2, hq none _ ρ1 G1 H1 _ a S1 R1 trivial (walk_pair h2 h4 (by rw [← h2.len]; exact z2 a vs s1) (fun i H sg e1 e2 => ⟨vs, us, vs[i], us[i], sqT_mono sg h0, sqT_mono sg h3.sq, by simp [e1], by simp [e2]⟩) (fun i H sg e => ⟨vs, us, sqT_mono sg h0, sqT_mono sg h3.sq, e⟩) fun i H v H' sg y => ?_) q1⟩⟩
          obtain ⟨t, x, y, e1, e2, e3, e4, e5⟩ := y
          exact ⟨t, x, y, e1, e2, e3, e4 vs (sqT_mono sg h0), e5 us (sqT_mono sg h3.sq)⟩
        · obtain ⟨a, vs, rfl, h1, h2⟩ := o1
          obtain ⟨b, us, rfl, h3, h4⟩ := o2
          have s1 : SqL T.K H1 a vs := sqL_mono R1.sub h1
          have s2 : SqL T.K H1 b us := sqL_mono R1.sub h3
          refine ⟨a, b, vs, us, rfl, .inl ⟨s1, s2, hq none _ ρ1 G1 H1 _ a S1 R1 trivial (walk_pair h2 h4 (by rw [← h2.len]; exact z1 a vs s1) (fun i H sg e1 e2 => ⟨vs, us, vs[i], us[i], sqL_mono sg h1, sqL_mono sg h3, by simp [e1], by simp [e2]⟩) (fun i H sg e => ⟨vs, us, sqL_mono sg h1, sqL_mono sg h3, e⟩) fun i H v H' sg y => ?_) q1⟩⟩
          obtain ⟨t, x, y, e1, e2, e3, e4, e5⟩ := y
          exact ⟨t, x, y, e1, e2, e3, e4 vs (sqL_mono sg h1), e5 us (sqL_mono sg h3)⟩
        · exact q1.elim
  · exact q1.elim
/-! ### storing into slots -/
theorem Rep.setVal {i : Nat} {d : D} {v : V} (R : Rep T ρ σ G H) (hd : Dp T G d v) (hi : i < ρ.length) : Rep T (ρ.set i (.val d)) (σ.set i (some v)) G H ∧ ∀ b, FpE (ρ.set i (.val d)) (σ.set i (some v)) H b → FpE ρ σ H b := by
  have is : i < σ.length := by rw [← R.len]; exact hi
  have key : ∀ (j : Nat) (c : Cell), (ρ.set i (.val d))[j]? = some (.own c) → ρ[j]? = some (.own c) ∧ (σ.set i (some v))[j]? = σ[j]? := fun j c h => by
    by_cases hj : j = i
    · subst hj; rw [List.getElem?_set_self hi] at h; cases h
    · rw [List.getElem?_set_ne (Ne.symm hj)] at h
      exact ⟨h, List.getElem?_set_ne (Ne.symm hj)⟩
  refine ⟨R.re (by simp [R.len]) (fun j d' h => ?_) (fun j => j) key (fun _ _ _ _ _ _ q => q), fun b h => FpE.re (fun j => j) key h⟩
  by_cases hj : j = i
  · subst hj
    rw [List.getElem?_set_self hi] at h
    cases h
    exact ⟨v, List.getElem?_set_self is, hd⟩
  · rw [List.getElem?_set_ne (Ne.symm hj)] at h ⊢
    exact R.val j d' h
/-- the target's reading -/
def dTg (T : Tx) (ir : Tg) : TG := fun v σ H Q => ∃ ρ G d ρ', Rep T ρ σ G H ∧ Dp T G d v ∧ bindT ir d ρ = some ρ' ∧
  ∀ σ', Rep T ρ' σ' G H → (∀ i, i ∉ ir.slots → σ'[i]? = σ[i]?) → σ'.length = σ.length → (∀ b, FpE ρ' σ' H b → FpE ρ σ H b) → Q σ' H
def dTgs (T : Tx) (irs : List Tg) : TGs := fun vs σ H Q => ∃ ρ G ds ρ', Rep T ρ σ G H ∧ Dps T G ds vs ∧ bindTs irs ds ρ = some ρ' ∧
  ∀ σ', Rep T ρ' σ' G H → (∀ i, i ∉ Tg.slots.slotsT irs → σ'[i]? = σ[i]?) → σ'.length = σ.length → (∀ b, FpE ρ' σ' H b → FpE ρ σ H b) → Q σ' H
theorem pg_weak {e : Expr} {t t' : TG} (h : PG X e t) (k : ∀ v σ H Q, t' v σ H Q → t v σ H Q) : PG X e t' := ⟨fun pins s σ H v u Q I r q => h.run pins s σ H v u Q I r (k v σ H Q q)⟩
theorem pgs_weak {e : List Expr} {t t' : TGs} (h : PGs X e t) (k : ∀ v σ H Q, t' v σ H Q → t v σ H Q) : PGs X e t' := ⟨fun pins s σ H v u Q I r q => h.run pins s σ H v u Q I r (k v σ H Q q)⟩
theorem sg_name {i : Nat} {x : Str} {pos : Pos} (hN : X.N.Nodup) (hi : X.N[i]? = some x) (hx : Loc X.env.scope x) (hf : X.fn x = true ∨ X.env.scope.names.lookup x = some .local) : PG X (.Name x pos) (dTg T (.name i)) := by
  refine pg_weak (pg_name hN hi hx hf) fun v σ H Q ⟨ρ, G, d, ρ', R, dv, hb, k⟩ => ?_
  have hb2 : (if i < ρ.length then some (ρ.set i (.val d)) else none) = some ρ' := by
    have : bindT (.name i) d ρ = (if i < ρ.length then some (ρ.set i (.val d)) else none) := by unfold bindT; rfl
    rw [← this]; exact hb
  split at hb2
  · rename_i hl
    cases hb2
    obtain ⟨R2, f2⟩ := R.setVal dv hl
    exact k _ R2 (fun j hj => List.getElem?_set_ne (fun z => hj (by rw [z]; exact List.mem_singleton.mpr rfl))) (by simp) f2
  · cases hb2
theorem sgs_nil : PGs X [] (dTgs T []) := by
  refine pgs_weak pgs_nil fun v σ H Q ⟨ρ, G, ds, ρ', R, dv, hb, k⟩ => ?_
  cases ds with
  | cons d ds => unfold bindTs at hb; cases hb
  | nil =>
    unfold bindTs at hb
    cases hb
    cases dv
    exact ⟨rfl, k σ R (fun _ _ => rfl) rfl fun _ h => h⟩
theorem sgs_cons {e : Expr} {es : List Expr} {ir : Tg} {irs : List Tg} (h1 : PG X e (dTg T ir)) (h2 : PGs X es (dTgs T irs)) (hs : (assignEach (e :: es) X.env).map (·.2) = assign e X.env :: (assignEach es X.env).map (·.2)) : PGs X (e :: es) (dTgs T (ir :: irs)) := by
  refine pgs_weak (pgs_cons h1 h2 hs) fun v σ H Q ⟨ρ, G, ds, ρ', R, dv, hb, k⟩ => ?_
  cases ds with
  | nil => unfold bindTs at hb; cases hb
  | cons d ds =>
    obtain ⟨u, ur, rfl, d1, d2⟩ := dv
    unfold bindTs at hb
    split at hb
    · rename_i ρ1 hb1
      refine ⟨u, ur, rfl, ρ, G, d, ρ1, R, d1, hb1, fun σ1 R1 s1 l1 f1 => ?_⟩
      refine ⟨ρ1, G, ds, ρ', R1, d2, hb, fun σ2 R2 s2 l2 f2 => ?_⟩
      refine k σ2 R2 (fun i hi => ?_) (by rw [l2, l1]) fun b h => f1 b (f2 b h)
      have hi2 : i ∉ ir.slots ++ Tg.slots.slotsT irs := hi
      rw [List.mem_append, not_or] at hi2
      rw [s2 i hi2.2, s1 i hi2.1]
    · cases hb
theorem bindTs_len : ∀ {irs : List Tg} {ds : List D} {ρ ρ' : Env}, bindTs irs ds ρ = some ρ' → ds.length = irs.length
  | [], [], _, _, _ => rfl
  | [], _ :: _, _, _, h => by unfold bindTs at h; cases h
  | _ :: _, [], _, _, h => by unfold bindTs at h; cases h
  | _ :: irs, _ :: ds, _, _, h => by
    unfold bindTs at h
    split at h
    · simp [bindTs_len h]
    · cases h
theorem sg_tup {es : List Expr} {irs : List Tg} {k : Nat} {pos : Pos} (hK : X.K = T.K) (hc : X.calm = true) (h : PGs X es (dTgs T irs)) (hn : (assignEach es X.env).length = irs.length) (hst : (assignEach es X.env).findIdx? (·.1) = none) : PG X (.Tuple es k pos) (dTg T (.tup irs)) := by
  refine pg_weak (pg_tup hc h hn hst) fun v σ H Q ⟨ρ, G, d, ρ', R, dv, hb, kk⟩ => ?_
  cases d with
  | tup ds =>
    obtain ⟨a, vs, rfl, h1, h2⟩ := dv
    have hb2 : bindTs irs ds ρ = some ρ' := by unfold bindT at hb; exact hb
    exact ⟨a, vs, rfl, by rw [hK]; exact sqT_mono R.sub h1.sq, by rw [h2.len]; exact bindTs_len hb2, ρ, G, ds, ρ', R, h2, hb2, fun σ' R' s' l' f' => kk σ' R' s' l' f'⟩
  | _ => unfold bindT at hb; cases hb
/-! ### one thing carried along -/
theorem Rep.carry {c : Cell} {v : V} (R : Rep T (ρ ++ [.own c]) (σ ++ [some v]) G H) (R' : Rep T ρ' σ' G' H') (S : Step (FpE ρ σ H) (FpE ρ' σ' H') G H G' H') :
    Rep T (ρ' ++ [.own c]) (σ' ++ [some v]) G' H' ∧ Step (FpE (ρ ++ [.own c]) (σ ++ [some v]) H) (FpE (ρ' ++ [.own c]) (σ' ++ [some v]) H') G H G' H' := by
  have hl : ρ.length = σ.length := by simpa using R.len
  have hl' := R'.len
  refine R.merge (A := fun i => i < ρ.length) R' S (fun b ⟨i, e, a, h1, h2, h3⟩ => ⟨i, e, a, (List.getElem?_eq_some_iff.mp h1).1, get_init h1, get_init h2, h3⟩) (by simp [hl']) (fun j d h => ?_)
    (fun j => if j = ρ'.length then .inl ρ.length else .inr j) (fun j e h => ?_) (fun i j e1 e2 h1 h2 q => ?_)
  · rcases get_app h with h | ⟨_, h⟩
    · obtain ⟨w, h1, h2⟩ := R'.val j d h
      exact ⟨w, get_init h1, h2⟩
    · cases h
  · rcases get_app h with h | ⟨q, h⟩
    · have hj := (List.getElem?_eq_some_iff.mp h).1
      rw [if_neg (by omega)]
      exact .inr ⟨j, rfl, h, List.getElem?_append_left (by omega)⟩
    · cases h
      subst q
      rw [if_pos rfl]
      refine .inl ⟨ρ.length, rfl, Nat.lt_irrefl _, get_last, ?_⟩
      rw [hl', get_last, hl, get_last]
  · rcases get_app h1 with h1 | ⟨q1, _⟩ <;> rcases get_app h2 with h2 | ⟨q2, _⟩
    · have := (List.getElem?_eq_some_iff.mp h1).1
      have := (List.getElem?_eq_some_iff.mp h2).1
      rw [if_neg (by omega), if_neg (by omega)] at q
      exact Sum.inr.inj q
    · have := (List.getElem?_eq_some_iff.mp h1).1
      rw [if_neg (by omega), if_pos q2] at q
      cases q
    · have := (List.getElem?_eq_some_iff.mp h2).1
      rw [if_pos q1, if_neg (by omega)] at q
      cases q
    · omega
/-! ### slots wiped -/
theorem wipeE_len (ρ : Env) : ∀ vs : List Nat, (wipeE ρ vs).length = ρ.length
  | [] => rfl
  | v :: vs => by unfold wipeE; rw [List.length_set, wipeE_len ρ vs]
theorem wipeE_get {s : Slot} {i : Nat} : ∀ {vs : List Nat}, (wipeE ρ vs)[i]? = some s → s = .non ∨ (ρ[i]? = some s ∧ i ∉ vs)
  | [], h => .inr ⟨h, by simp⟩
  | v :: vs, h => by
    unfold wipeE at h
    by_cases hi : v = i
    · subst hi
      by_cases hv : v < (wipeE ρ vs).length
      · rw [List.getElem?_set_self hv] at h; cases h; exact .inl rfl
      · rw [List.getElem?_eq_none (by simpa using hv)] at h; cases h
    · rw [List.getElem?_set_ne hi] at h
      rcases wipeE_get h with h | ⟨h1, h2⟩
      · exact .inl h
      · exact .inr ⟨h1, by simp only [List.mem_cons, not_or]; exact ⟨fun e => hi e.symm, h2⟩⟩
theorem Rep.wipe (R : Rep T ρ σ G H) (vs : List Nat) : Rep T (wipeE ρ vs) (L2.wipe σ vs) G H ∧ ∀ b, FpE (wipeE ρ vs) (L2.wipe σ vs) H b → FpE ρ σ H b := by
  have key : ∀ (j : Nat) (c : Cell), (wipeE ρ vs)[j]? = some (.own c) → ρ[j]? = some (.own c) ∧ (L2.wipe σ vs)[j]? = σ[j]? := fun j c h => by
    rcases wipeE_get h with h | ⟨h1, h2⟩
    · cases h
    · exact ⟨h1, wipe_out h2⟩
  refine ⟨R.re (by rw [wipeE_len, wipe_length]; exact R.len) (fun j d h => ?_) (fun j => j) key (fun _ _ _ _ _ _ q => q), fun b h => FpE.re (fun j => j) key h⟩
  rcases wipeE_get h with h | ⟨h1, h2⟩
  · cases h
  · rw [wipe_out h2]
    exact R.val j d h1
end
end Mi
namespace Mi
open PySem PySem.Spec PyProof.Rows L2
/-! ### the pairs of a dict whose keys are tuples -/
section
variable {X : Cx} {pins : List (Addr × Obj)} {σ : L2.St} {H : Hp} {s : Shared} {d : Addr} {o : Obj}
theorem frzT2 {kvs : List (List Key × V)} (I : Inv X pins σ H s) (h : H d = some (.frz o (.dT kvs))) :
    (d == sysModules) = false ∧ ∃ (es : Array DictEntry) (ep : Nat), o.data = .dict es ep ∧ s.heap.DictRaw d es ep ∧ es.size = kvs.length ∧
      ∀ (i : Nat) (hi : i < es.size) (k : List Key) (v : V), kvs[i]? = some (k, v) → ∃ q : Addr, es[i].key = .ref q ∧ RelV v es[i].val ∧ H q = some (.tup (k.map kV)) := by
  obtain ⟨hd, z, hs, xs, pr, o', es, ep, ho, hx, hdt, he, _⟩ := I.hok d _ h
  rw [hd] at ho
  cases ho
  refine ⟨hs, es, ep, hdt, ⟨o, hd, hx, hdt⟩, ?_, fun i hi k v e => ?_⟩
  · have l1 : es.size = xs.length := size_of_entries he
    have l2 : kvs.length = xs.length := Paired.length pr
    omega
  · obtain ⟨b, hb, e1, e2, e3⟩ := paired_get pr e
    have q := entry_at he i
    rw [hb, Array.getElem?_eq_getElem hi] at q
    have q := Option.some.inj q
    exact ⟨b.2.1, by rw [q]; rfl, by rw [q]; exact e3, e2⟩
/-- the pairs, each a new tuple of the key's own tuple and the value -/
def Itit (d : Addr) (o : Obj) (kvs : List (List Key × V)) : It :=
  ⟨fun i H => H d = some (.frz o (.dT kvs)) ∧ i < kvs.length, fun i H x H' => ∃ (T : Addr) (k : List Key) (v : V) (q : Addr), kvs[i]? = some (k, v) ∧ x = .ref T ∧ H T = none ∧ H q = some (.tup (k.map kV)) ∧ H' = upd H T (.tup [.ref q, v]), fun i H => H d = some (.frz o (.dT kvs)) ∧ kvs.length ≤ i⟩
end
section
variable {P : Program} {w : World} {K : PySem.W.Frag} {d : Addr} {o : Obj} {es : Array DictEntry} {ep : Nat}
theorem turn_itemsT {kvs : List (List Key × V)} {elts : List Expr} {kk : Nat} {tpos : Pos} (it : Addr) (hod : o.data = .dict es ep) :
    L2.Turn P w K (.Tuple elts kk tpos) (Itit d o kvs) [it] it (fun i h => ∃ ok ov, IsItemIter h it d i kvs.length ep ok ov) where
  mem := by simp
  obj := fun i h st b hb => by
    have e : b = it := by simpa using hb
    subst e
    obtain ⟨ok, ov, e⟩ := st
    exact ⟨_, e, fun v z => nomatch z⟩
  keep := fun i h h' st k => let ⟨ok, ov, e⟩ := st; ⟨ok, ov, k it (by simp) _ e⟩
  item := by
    intro X hP hw hK hc i pins s σ H E I hf st hg
    subst hP hw hK
    obtain ⟨hd, hi⟩ := hg
    obtain ⟨hs, es', ep', hdt, hraw, hsz, ent⟩ := frzT2 I hd
    obtain ⟨rfl, rfl⟩ := dict_ep hod hdt
    obtain ⟨⟨k, v⟩, hkv⟩ : ∃ p, kvs[i]? = some p := ⟨kvs[i], List.getElem?_eq_getElem hi⟩
    have hi2 : i < es'.size := by rw [hsz]; exact hi
    obtain ⟨q, hq1, hq2, hq3⟩ := ent i hi2 k v hkv
    obtain ⟨ok, ov, he⟩ := st
    rw [← hsz] at he
    have hlt : it < s.heap.objs.size := Heap.lt_size he
    refine wpAny_pyNext_items_item_raw he hraw hi2 fun h' ho hT hz hk => ?_
    refine ⟨_, rfl, wpAny_letOwnedTupleGo_items (s := { s with heap := h' }) ho fun h'' he' sb => ?_⟩
    have hT2 : h''.get? s.heap.objs.size = some { cls := .type "tuple", data := .seq #[es'[i].key, es'[i].val] } := (sb.2 _ (Nat.ne_of_gt hlt)).trans hT
    have new : ObjOk X.prog X.w (upd H s.heap.objs.size (.tup [.ref q, v])) h'' s.heap.objs.size (.tup [.ref q, v]) :=
      ⟨by show 2 ≤ sizeLine; decide, [es'[i].key, es'[i].val], .cons hq1 (.cons hq2 .nil), ⟨_, hT2, rfl, _, rfl⟩⟩
    have I1 : Inv X pins σ (upd H s.heap.objs.size (.tup [.ref q, v])) { s with heap := h'' } :=
      I.turnedNew (t' := s.toks) (ch := [it]) (fun b ob hb e => (sb.2 b (by simpa using hb)).trans (hk b ob (by simpa using hb) e)) hf (Nat.le_refl _) new
    refine ⟨.ref s.heap.objs.size, _, I1, rfl, ⟨_, k, v, q, hkv, rfl, I.hok.fresh (Nat.le_refl _), hq3, rfl⟩, ⟨es'[i].key, es'[i].val, ?_⟩, fun b hb => ?_⟩
    · rw [← hsz]; exact he'
    · have e : b = it := by simpa using hb
      rw [e, upd_ne (Nat.ne_of_lt hlt)]
      exact (hf it (by simp)).1
  done := by
    intro X hP hw hK hc i pins s σ H E I hf st hg
    subst hP hw hK
    obtain ⟨hd, hi⟩ := hg
    obtain ⟨f0, f1, f2, f3, f4, f5⟩ := hf it (by simp)
    obtain ⟨hs, es', ep', hdt, hraw, hsz, ent⟩ := frzT2 I hd
    obtain ⟨rfl, rfl⟩ := dict_ep hod hdt
    obtain ⟨ok, ov, he⟩ := st
    rw [← hsz] at he hi
    exact wpAny_pyNext_items_end_raw (I.ok.hd hc) he hraw hi fun h' eb => ⟨rfl, I.turned (t' := s.toks) (fun b ob hb e => eb b ob hb e) f0 f1 f3 f4 f5⟩
  self := fun A i s Q E st h => let ⟨_, _, e⟩ := st; PySem.W.kcp_self e h
end
def iItemsA (td : TE) : TI := fun σ H R => td σ H fun x H1 => ∃ d o, x = .ref d ∧ ((∃ kvs, H1 d = some (.frz o (.dK kvs)) ∧ R (Iti d o kvs) H1) ∨ ∃ kvs, H1 d = some (.frz o (.dT kvs)) ∧ R (Itit d o kvs) H1)
section
variable {X : Cx} {e : Expr} {td : TE} {apos cpos : Pos}
theorem pi_itemsA {elts : List Expr} {kk : Nat} {tpos : Pos} (he : PE X e td) (hbase : attributeBase e "items" X.env (eval e X.env) = eval e X.env) (hline : (apos.endLine == cpos.line) = true) :
    PI X (.Tuple elts kk tpos) (.Call (.Attribute e "items" apos) [] [] cpos) (iItemsA td) := by
  refine ⟨fun pins s σ H R I h => ?_⟩
  refine wpAny_Call_method (T := "dict") (id := "dict.items") hbase rfl hline F.plainAttrs_dict F.slot_dict_items F.type_dict_items (thn (he.run pins s σ H _ I h) fun u s1 ⟨x, H1, I1, rx, d, o, ex, q⟩ => ?_)
  subst ex
  obtain rfl : u = Value.ref d := rx
  rcases q with ⟨kvs, hd, q⟩ | ⟨kvs, hd, q⟩
  · obtain ⟨hs, hgd, hx, es, ep, vs, hdt, hsz, kv, hm⟩ := I1.frzK hd
    have hl : kvs.length = vs.length := Paired.length kv
    refine ⟨hm.dictOf.typeIs, hm.dictOf.mapOf.noDict, ?_⟩
    have I2 : Inv X pins σ H1 { s1 with heap := s1.heap.push { cls := .type "dict_items", data := .fields #[.ref d] } } := I1.kept (t' := s1.toks) fun b ob q => Heap.get?_push_of_some _ q
    have fin : wpAny (model X.prog X.w) X.A (pyIter (.ref s1.heap.objs.size)) (PIE X pins σ (.Tuple elts kk tpos) R) X.xe { s1 with heap := s1.heap.push { cls := .type "dict_items", data := .fields #[.ref d] } } := by
      refine wpAny_pyIter_items (d := d) (knd := mixKind X.prog X.w) ⟨_, Heap.get?_push_size _ rfl, rfl, rfl⟩ (hm.push _) (pi_one (tk := s1.toks) I2 _ (turn_items _ hdt) ⟨.none, .none, ?_⟩ q)
      rw [hl]
      exact Heap.get?_push_size _ rfl
    show wpAny _ _ (callWith cpos (.builtin "dict.items") [.ref d] [] []) _ X.xe s1
    exact method_meetsIn F.slot_dict_items F.entry_dict_items rfl (PySem.evalArgs_none ⟨rfl, hm.dictOf.typeIs, F.args_dict_items_1 _, _, meets_dict_items (mixKind X.prog X.w) d hs, ⟨vs, hm.dictOf⟩, fin⟩)
  · obtain ⟨hs, es, ep, hdt, hraw, hsz, ent⟩ := frzT2 I1 hd
    obtain ⟨od, ho, hx, hdat⟩ := id hraw
    refine ⟨hraw.typeIs, ?_, ?_⟩
    · intro z ez
      cases ez
      exact ⟨od, ho, hx.2.1⟩
    have I2 : Inv X pins σ H1 { s1 with heap := s1.heap.push { cls := .type "dict_items", data := .fields #[.ref d] } } := I1.kept (t' := s1.toks) fun b ob q => Heap.get?_push_of_some _ q
    have fin : wpAny (model X.prog X.w) X.A (pyIter (.ref s1.heap.objs.size)) (PIE X pins σ (.Tuple elts kk tpos) R) X.xe { s1 with heap := s1.heap.push { cls := .type "dict_items", data := .fields #[.ref d] } } := by
      refine wpAny_pyIter_items_raw (d := d) ⟨_, Heap.get?_push_size _ rfl, rfl, rfl⟩ (hraw.at fun o e => Heap.get?_push_of_some _ e) (pi_one (tk := s1.toks) I2 _ (turn_itemsT _ hdt) ⟨.none, .none, ?_⟩ q)
      rw [← hsz]
      exact Heap.get?_push_size _ rfl
    show wpAny _ _ (callWith cpos (.builtin "dict.items") [.ref d] [] []) _ X.xe s1
    exact method_meetsIn F.slot_dict_items F.entry_dict_items rfl (PySem.evalArgs_none ⟨rfl, hraw.typeIs, F.args_dict_items_1 _, _, meets_dict_items_raw d hs, ⟨es, ep, hraw⟩, fin⟩)
end
section
variable {X : Cx} {T : Tx} {W : WX} {Γ : Nat → FS}
theorem DpK.get {G : Hp} : ∀ {ds : List (Ky × D)} {vs : List (Key × V)} {i : Nat} {k : Key} {v : V}, DpK T G ds vs → vs[i]? = some (k, v) → ∃ d, ds[i]? = some (k, d) ∧ okK k = true ∧ Dp T G d v
  | [], _, _, _, _, h, e => by cases h; simp at e
  | (k', d) :: ds, _, 0, k, v, ⟨w, wr, h1, h2, h3⟩, e => by subst h1; simp at e; obtain ⟨rfl, rfl⟩ := e; exact ⟨d, rfl, h2.1, h2.2⟩
  | (k', d) :: ds, _, i + 1, k, v, ⟨w, wr, h1, h2, h3⟩, e => by
    subst h1
    obtain ⟨d', q1, q2⟩ := DpK.get (i := i) (k := k) (v := v) h3 (by simpa using e)
    exact ⟨d', by simpa using q1, q2⟩
theorem kD_dp {G : Hp} {k : Ky} (h : okK k = true) : Dp T G (kD k) (kV k) := by
  cases k with
  | inl i => exact rfl
  | inr x => exact ⟨rfl, h⟩
theorem walk_items {G0 : Hp} {ds : List (Ky × D)} {vs : List (Key × V)} {a : Addr} {o : Obj} (h1 : G0 a = some (.frz o (.dK vs))) (h2 : DpK T G0 ds vs) (hl : ds.length ≤ sizeLine) : Walk T none (ds.map fun kv => .tup [kD kv.1, kv.2]) a (Iti a o vs) G0 := by
  have hlen : vs.length = ds.length := by simpa using (keys_dp h2).len
  refine ⟨fun i ρ σ G H hi R sg _ => ⟨R.sub _ _ (sg _ _ h1), by rw [hlen]; simpa using hi⟩, fun ρ σ G H R sg _ => ⟨R.sub _ _ (sg _ _ h1), by rw [hlen]; simp⟩, fun i ρ σ G H x H' hi R sg _ y => ?_, by simpa using hl⟩
  obtain ⟨t, k, v, e, rfl, nt, rfl⟩ := y
  obtain ⟨d, e2, ok, dv⟩ := h2.get e
  have n := New.lay (o := .tup [kV k, v]) R.sub nt
  exact ⟨_, .tup [kD k, d], n, by rw [List.getElem?_map, e2]; rfl, t, _, rfl, .inl upd_same, _, _, rfl, kD_dp ok, _, _, rfl, dv.mono (sg.trans n.gs), rfl⟩
theorem walk_itemsT {G0 : Hp} {ds : List (List Ky × D)} {vs : List (List Key × V)} {a : Addr} {o : Obj} (h1 : G0 a = some (.frz o (.dT vs))) (h2 : DpT T G0 ds vs) (hl : ds.length ≤ sizeLine) : Walk T none (ds.map fun kv => .tup [.tup (kv.1.map kD), kv.2]) a (Itit a o vs) G0 := by
  have hlen := h2.len
  refine ⟨fun i ρ σ G H hi R sg _ => ⟨R.sub _ _ (sg _ _ h1), by rw [hlen]; simpa using hi⟩, fun ρ σ G H R sg _ => ⟨R.sub _ _ (sg _ _ h1), by rw [hlen]; simp⟩, fun i ρ σ G H x H' hi R sg _ y => ?_, by simpa using hl⟩
  obtain ⟨t, k, v, q, e, rfl, nt, hq, rfl⟩ := y
  obtain ⟨d, e2, ok, dv⟩ := h2.get e
  have n1 := New.tup R.sub hq
  have n2 := New.lay (o := .tup [.ref q, v]) n1.sub nt
  have hne : q ≠ t := fun z => by rw [z, nt] at hq; cases hq
  refine ⟨_, .tup [.tup (k.map kD), d], n1.trans n2, by rw [List.getElem?_map, e2]; rfl, t, _, rfl, .inl upd_same, _, _, rfl, ⟨q, k.map kV, rfl, .inl ?_, key_dp ok⟩, _, _, rfl, dv.mono (sg.trans (n1.trans n2).gs), rfl⟩
  rw [upd_ne hne]
  exact upd_same
theorem si_items {elts : List Expr} {kk : Nat} {tpos : Pos} {e : Expr} {ir : IE} {apos cpos : Pos} (hK : X.K = T.K) (h : SE X T W Γ e ir) (hbase : attributeBase e "items" X.env (eval e X.env) = eval e X.env) (hline : (apos.endLine == cpos.line) = true) :
    SI X T W Γ (.Tuple elts kk tpos) (.Call (.Attribute e "items" apos) [] [] cpos) (.items ir) := by
  refine pi_weak (pi_itemsA (pe_sizes (pe_opd h)) hbase hline) fun σ H R0 ⟨ρ, G, Qp, Ep, R, w, hq, he⟩ => ?_
  refine ⟨ρ, G, _, Ep, R, w, fun x v ρ1 G1 H1 S1 R1 o1 q1 z1 z2 z3 z4 => ?_, he⟩
  cases x with
  | own c => exact o1.elim
  | slot i => exact q1.elim
  | val d =>
    cases d with
    | dK kvs =>
      obtain ⟨a, o, ws, rfl, h1, h2⟩ := o1
      exact ⟨a, o, rfl, .inl ⟨ws, R1.sub _ _ h1, hq none _ ρ1 G1 H1 _ a S1 R1 trivial (walk_items h1 h2 (by have := z3 a ws (.inr ⟨o, R1.sub _ _ h1⟩); have e := (keys_dp h2).len; simp only [List.length_map] at e; omega)) q1⟩⟩
    | dT kvs =>
      obtain ⟨a, o, ws, rfl, h1, h2⟩ := o1
      exact ⟨a, o, rfl, .inr ⟨ws, R1.sub _ _ h1, hq none _ ρ1 G1 H1 _ a S1 R1 trivial (walk_itemsT h1 h2 (by rw [← h2.len]; exact z4 a ws (.inr ⟨o, R1.sub _ _ h1⟩))) q1⟩⟩
    | _ => exact q1.elim
end
end Mi
namespace Mi
open PySem PySem.Spec PyProof.Rows L2
/-- nothing is let out -/
abbrev W0 : WX := fun _ _ _ _ => False
section
variable {X : Cx} {T : Tx} {W : WX} {Γ : Nat → FS}
/-! ### a comprehension's tests -/
def dF (T : Tx) (w : Env → (Bool → Env → Prop) → Prop) : TT := fun σ H Q => ∃ (ρ : Env) (G : Hp) (Qp : Bool → Env → Prop), Rep T ρ σ G H ∧ w ρ Qp ∧
  (∀ b ρ' G' H', Step (FpE ρ σ H) (FpE ρ' σ H') G H G' H' → Rep T ρ' σ G' H' → Qp b ρ' → Q b H')
theorem pts_weak {e : List Expr} {t t' : TT} (h : PTs X e t) (k : ∀ σ H Q, t' σ H Q → t σ H Q) : PTs X e t' := ⟨fun pins s σ H Q I q => h.run pins s σ H Q I (k σ H Q q)⟩
abbrev SF (X : Cx) (T : Tx) (Γ : Nat → FS) (ifs : List Expr) (ir : Option IE) : Prop := PTs X ifs (dF T (wpF Γ ir))
theorem sf_none : SF X T Γ [] none := by
  refine pts_weak pts_nil fun σ H Q ⟨ρ, G, Qp, R, w, hq⟩ => ?_
  exact hq true ρ G H (Step.refl fun _ h => h) R w
theorem sf_one {c : Expr} {ir : IE} (h : ST X T W0 Γ c ir) : SF X T Γ [c] (some ir) := by
  refine pts_weak (pts_one h) fun σ H Q ⟨ρ, G, Qp, R, w, hq⟩ => ?_
  exact ⟨ρ, G, Qp, fun _ _ => False, R, w, hq, fun _ _ _ _ _ _ _ _ _ z => z.elim⟩
theorem backE_len (ρ0 ρ : Env) : ∀ vs : List Nat, (backE ρ0 ρ vs).length = ρ.length
  | [] => rfl
  | v :: vs => by unfold backE; rw [List.length_set, backE_len ρ0 ρ vs]
theorem backE_get {ρ0 ρ : Env} {s : Slot} {i : Nat} : ∀ {vs : List Nat}, (backE ρ0 ρ vs)[i]? = some s → (i ∈ vs ∧ s = ρ0.getD i .non) ∨ (i ∉ vs ∧ ρ[i]? = some s)
  | [], h => .inr ⟨by simp, h⟩
  | v :: vs, h => by
    unfold backE at h
    by_cases hi : v = i
    · subst hi
      by_cases hv : v < (backE ρ0 ρ vs).length
      · rw [List.getElem?_set_self hv] at h; cases h; exact .inl ⟨by simp, rfl⟩
      · rw [List.getElem?_eq_none (by simpa using hv)] at h; cases h
    · rw [List.getElem?_set_ne hi] at h
      rcases backE_get h with ⟨h1, h2⟩ | ⟨h1, h2⟩
      · exact .inl ⟨List.mem_cons_of_mem _ h1, h2⟩
      · exact .inr ⟨by simp only [List.mem_cons, not_or]; exact ⟨fun e => hi e.symm, h1⟩, h2⟩
theorem set_comm_same {l : L2.St} {i : Nat} {x : Option V} : (l.set i x).set i x = l.set i x := List.set_set ..
theorem wipe_ext {σ1 σ2 : L2.St} (vs : List Nat) (hl : σ1.length = σ2.length) (h : ∀ i, i ∉ vs → σ1[i]? = σ2[i]?) : L2.wipe σ1 vs = L2.wipe σ2 vs := by
  apply List.ext_getElem?
  intro i
  by_cases hi : i ∈ vs
  · have key : ∀ {σ : L2.St} {vs : List Nat}, i ∈ vs → (L2.wipe σ vs)[i]? = if i < σ.length then some none else none := fun {σ vs} => by
      induction vs with
      | nil => intro h; cases h
      | cons v vs ih =>
        intro h
        unfold L2.wipe
        by_cases e : v = i
        · subst e
          by_cases q : v < σ.length
          · rw [List.getElem?_set_self (by rw [wipe_length]; exact q), if_pos q]
          · rw [if_neg q, List.getElem?_eq_none (by rw [List.length_set, wipe_length]; omega)]
        · rw [List.getElem?_set_ne e]
          exact ih (by rcases List.mem_cons.mp h with h | h; exact absurd h.symm e; exact h)
    rw [key hi, key hi, hl]
  · rw [wipe_out hi, wipe_out hi, h i hi]
/-- [elt for target in iter if ..] -/
theorem lcp_tLc {ti : Tg} {ii : II} {io : Option IE} {ie : IE} {vs : List Nat} {σ : L2.St} {H : Hp} {Q : VK} (h : dG T W (wp Γ (.lcp ti ii io ie vs)) σ H Q) :
    tLc (dI T W (wpI Γ ii)) (dTg T ti) (dF T (wpF Γ io)) (dZ T W0 (frzT (wp Γ ie))) vs σ H Q := by
  obtain ⟨ρ, G, Qp, Ep, R, w, hq, he⟩ := h
  refine ⟨ρ, G, _, Ep, R, w, fun g ds ρ1 G1 H1 J a S1 R1 src wk q1 => ?_, he⟩
  obtain ⟨no, gv, tv, q1⟩ := q1
  intro L nL
  have gL : G1 L = none := R1.sub.free nL
  have hsz := wk.len
  obtain ⟨R2, f2⟩ := R1.wipe vs
  -- the new list is ours
  have n3 : New G1 H1 G1 (upd H1 L (.lst [])) := New.fresh R1.sub nL
  have R3 := R2.grow n3
  have R4 : Rep T (wipeE ρ1 vs ++ [.own (.lst [])]) (L2.wipe σ vs ++ [some (.ref L)]) G1 (upd H1 L (.lst [])) := by
    refine R3.push ⟨[], upd_same, rfl⟩ (fun b hb => by cases hb; exact gL) (fun b hb z => ?_)
    cases hb
    obtain ⟨i, c, a', h1, h2, h3⟩ := z
    obtain ⟨u, hu, _⟩ := FpE.there R2 ⟨i, c, a', h1, h2, fp_back R2 n3.hs h1 h2 h3⟩
    rw [nL] at hu
    cases hu
  have S4 : Step (FpE ρ σ H) (FpE (wipeE ρ1 vs ++ [.own (.lst [])]) (L2.wipe σ vs ++ [some (.ref L)]) (upd H1 L (.lst []))) G H G1 (upd H1 L (.lst [])) := by
    refine S1.trans ⟨Same.refl _, fun b e n => absurd e n, fun b o e _ => n3.hs b o e, fun b hb => ?_⟩
    rcases fpE_push R3 hb with hb | hb
    · obtain ⟨i, c, a', h1, h2, h3⟩ := hb
      exact .inl (f2 b ⟨i, c, a', h1, h2, fp_back R2 n3.hs h1 h2 h3⟩)
    · cases hb; exact .inr nL
  have src4 : SrcAt g ds a (wipeE ρ1 vs) (L2.wipe σ vs) := by
    cases g with
    | none => trivial
    | some i =>
      have hi := gv i rfl
      have keep : ∀ {vs : List Nat}, i ∉ vs → (wipeE ρ1 vs)[i]? = ρ1[i]? := fun {vs} => by
        induction vs with
        | nil => intro _; rfl
        | cons v vs ih =>
          intro hn
          simp only [List.mem_cons, not_or] at hn
          unfold wipeE
          rw [List.getElem?_set_ne (fun e => hn.1 e.symm)]
          exact ih hn.2
      exact ⟨by rw [keep hi]; exact src.1, by rw [wipe_out hi]; exact src.2⟩
  refine ⟨fun i m H2 => m = ds.length - i ∧ i ≤ ds.length ∧ ∃ ρ2 G2 acc, Rep T (ρ2 ++ [.own (.lst acc)]) (L2.wipe σ vs ++ [some (.ref L)]) G2 H2 ∧ Step (FpE ρ σ H) (FpE (ρ2 ++ [.own (.lst acc)]) (L2.wipe σ vs ++ [some (.ref L)]) H2) G H G2 H2 ∧ Same G1 G2 ∧
    SrcAt g ds a ρ2 (L2.wipe σ vs) ∧ acc.length ≤ i ∧ turns g ds (lcF ti vs (wpF Γ io) (wp Γ ie)) (ds.drop i) ρ2 acc (fun acc ρ7 => Qp (.own (.lst acc)) (backE ρ1 ρ7 vs)), ⟨_, rfl, Nat.zero_le _, _, G1, [], R4, S4, Same.refl _, src4, Nat.le_refl _, q1⟩, ?_⟩
  rintro i m H2 ⟨rfl, hi, ρ2, G2, acc, R5, S5, sg5, src5, ha, t5⟩
  have hlen : ρ2.length = (L2.wipe σ vs).length := by simpa using R5.len
  have srcX : SrcAt g ds a (ρ2 ++ [.own (.lst acc)]) (L2.wipe σ vs ++ [some (.ref L)]) := by
    cases g with
    | none => trivial
    | some k => exact ⟨get_init src5.1, get_init src5.2⟩
  by_cases hlt : i < ds.length
  · refine .inr ⟨wk.go i _ _ G2 H2 hlt R5 sg5 srcX, fun H3 => ∃ ρ3 G3 acc3, Rep T (ρ3 ++ [.own (.lst acc3)]) (L2.wipe σ vs ++ [some (.ref L)]) G3 H3 ∧ Step (FpE ρ σ H) (FpE (ρ3 ++ [.own (.lst acc3)]) (L2.wipe σ vs ++ [some (.ref L)]) H3) G H G3 H3 ∧ Same G1 G3 ∧
      SrcAt g ds a ρ3 (L2.wipe σ vs) ∧ acc3.length ≤ i + 1 ∧ turns g ds (lcF ti vs (wpF Γ io) (wp Γ ie)) (ds.drop (i + 1)) ρ3 acc3 (fun acc ρ7 => Qp (.own (.lst acc)) (backE ρ1 ρ7 vs)), ?_, ?_⟩
    · rintro H3 ⟨ρ3, G3, acc3, p1, p2, p3, p4, p5, p7⟩
      exact ⟨ds.length - (i + 1), by omega, rfl, hlt, ρ3, G3, acc3, p1, p2, p3, p4, p5, p7⟩
    · intro x H3 hy
      obtain ⟨G3, d, n3', hd, dx⟩ := wk.yld i _ _ G2 H2 x H3 hlt R5 sg5 srcX hy
      have hdrop : ds.drop i = d :: ds.drop (i + 1) := by
        have e := List.drop_eq_getElem_cons hlt
        rw [e]
        rw [List.getElem?_eq_getElem hlt] at hd
        cases hd
        rfl
      rw [hdrop] at t5
      have t6 : lcF ti vs (wpF Γ io) (wp Γ ie) d ρ2 (fun o ρ1' => Guard g ds ρ1' ∧ turns g ds (lcF ti vs (wpF Γ io) (wp Γ ie)) (ds.drop (i + 1)) ρ1' (match o with | some y => acc ++ [y] | none => acc) (fun acc ρ7 => Qp (.own (.lst acc)) (backE ρ1 ρ7 vs))) := t5
      unfold lcF at t6
      split at t6
      · rename_i ρ3 hb
        have R6 := R5.grow n3'
        have S6 := R5.growStep n3'
        refine ⟨ρ2, G3, d, ρ3, R6.init, dx, hb, fun σ3 R7 s7 l7 f7 => ⟨?_, ?_⟩⟩
        · exact (wipe_ext vs (by rw [l7]) fun j hj => s7 j fun z => hj (tv j z)).trans (wipe_ext vs (by rw [wipe_length]) fun j hj => wipe_out hj)
        · have ws3 : L2.wipe σ3 vs = L2.wipe σ vs := (wipe_ext vs (by rw [l7]) fun j hj => s7 j fun z => hj (tv j z)).trans (wipe_ext vs (by rw [wipe_length]) fun j hj => wipe_out hj)
          obtain ⟨R8, S8⟩ := R6.carry R7 (Step.refl f7)
          -- what one turn leaves
          have fin : ∀ {ρ4 : Env} {G4 H4 : Hp} {acc4 : List D}, Rep T (ρ4 ++ [.own (.lst acc4)]) (σ3 ++ [some (.ref L)]) G4 H4 → Step (FpE ρ σ H) (FpE (ρ4 ++ [.own (.lst acc4)]) (σ3 ++ [some (.ref L)]) H4) G H G4 H4 → Same G1 G4 → Guard g ds (wipeE ρ4 vs) → acc4.length ≤ i + 1 →
              Rep T (wipeE ρ4 vs ++ [.own (.lst acc4)]) (L2.wipe σ vs ++ [some (.ref L)]) G4 H4 ∧ Step (FpE ρ σ H) (FpE (wipeE ρ4 vs ++ [.own (.lst acc4)]) (L2.wipe σ vs ++ [some (.ref L)]) H4) G H G4 H4 ∧ Same G1 G4 ∧ SrcAt g ds a (wipeE ρ4 vs) (L2.wipe σ vs) ∧ acc4.length ≤ i + 1 := by
            intro ρ4 G4 H4 acc4 R9 S9 sg9 gd ha9
            obtain ⟨R10, f10⟩ := R9.init.wipe vs
            rw [ws3] at R10 f10
            obtain ⟨R11, S11⟩ := R9.carry R10 (Step.refl f10)
            refine ⟨R11, S9.trans S11, sg9, ?_, ha9⟩
            cases g with
            | none => trivial
            | some k => exact ⟨gd, by rw [wipe_out (gv k rfl)]; exact src.2⟩
          refine ⟨ρ3, G3, _, R7, t6, fun b ρ4 G4 H4 S9 R9 q9 => ?_⟩
          obtain ⟨R10, S10⟩ := R8.carry R9 S9
          have ST : Step (FpE ρ σ H) (FpE (ρ4 ++ [.own (.lst acc)]) (σ3 ++ [some (.ref L)]) H4) G H G4 H4 := (((S5.trans S6).trans S8).trans S10)
          cases b with
          | false =>
            obtain ⟨gd, q10⟩ := q9
            obtain ⟨p1, p2, p3, p4, p5⟩ := fin R10 ST (sg5.trans (n3'.gs.trans S9.gs)) gd (by omega)
            exact iteF ⟨_, G4, acc, p1, p2, p3, p4, p5, q10⟩
          | true =>
            refine iteT ⟨ρ4, G4, _, _, R9, q9, fun y z ρ5 G5 H5 S11 R11 dz q11 => ?_, fun _ _ _ _ _ _ _ _ _ z => z.elim⟩
            obtain ⟨R12, S12⟩ := R10.carry R11 S11
            obtain ⟨al, h1, us, h2, h3⟩ := R12.own ρ5.length (.lst acc) get_last
            have hl5 : ρ5.length = σ3.length := by simpa using R12.len
            rw [hl5, get_last] at h1
            cases h1
            refine ⟨us, h2, by rw [h3.len]; omega, ?_⟩
            obtain ⟨R13, S13⟩ := R12.put (o := .lst (us ++ [z])) get_last (by rw [hl5]; exact get_last) rfl (c1 := .lst (acc ++ [y])) rfl ⟨us ++ [z], upd_same, h3.append (Dps.one dz)⟩
            rw [set_last] at R13 S13
            obtain ⟨gd, q12⟩ := q11
            obtain ⟨p1, p2, p3, p4, p5⟩ := fin R13 ((ST.trans S12).trans S13) (sg5.trans (n3'.gs.trans (S9.gs.trans S11.gs))) gd (by simp; omega)
            exact ⟨_, G5, acc ++ [y], p1, p2, p3, p4, p5, q12⟩
      · exact t6.elim
  · have ei : i = ds.length := by omega
    subst ei
    refine .inl ⟨wk.stop _ _ G2 H2 R5 sg5 srcX, ?_⟩
    rw [List.drop_length] at t5
    have t6 : Qp (.own (.lst acc)) (backE ρ1 ρ2 vs) := t5
    have hl2 : (backE ρ1 ρ2 vs).length = σ.length := by rw [backE_len, hlen, wipe_length]
    have key : ∀ (j : Nat) (c : Cell), (backE ρ1 ρ2 vs ++ [.own (.lst acc)])[j]? = some (.own c) → (ρ2 ++ [.own (.lst acc)])[j]? = some (.own c) ∧ (σ ++ [some (.ref L)])[j]? = (L2.wipe σ vs ++ [some (.ref L)])[j]? := fun j c hj => by
      rcases get_app hj with hj | ⟨q, hj⟩
      · have hjl := (List.getElem?_eq_some_iff.mp hj).1
        rw [hl2] at hjl
        rcases backE_get hj with ⟨h1, h2⟩ | ⟨h1, h2⟩
        · rw [List.getD_eq_getElem?_getD] at h2
          cases e : ρ1[j]? with
          | none => rw [e] at h2; cases h2
          | some s =>
            rw [e] at h2
            have h3 : s = .own c := h2.symm
            rw [h3] at e
            exact absurd e (no j h1 c)
        · refine ⟨get_init h2, ?_⟩
          rw [List.getElem?_append_left hjl, List.getElem?_append_left (by rw [wipe_length]; exact hjl), wipe_out h1]
      · cases hj
        subst q
        rw [hl2]
        have e1 : σ.length = (L2.wipe σ vs).length := by rw [wipe_length]
        refine ⟨by rw [e1, ← hlen]; exact get_last, ?_⟩
        rw [get_last, e1, get_last]
    refine hq (.own (.lst acc)) (.ref L) (backE ρ1 ρ2 vs) G2 H2 ⟨S5.gs, S5.gn, S5.fr, fun b hb => S5.fp b (FpE.re (fun j => j) key hb)⟩ ⟨⟨L, rfl⟩, R5.re (by simp [hl2]) (fun j d hj => ?_) (fun j => j) key (fun _ _ _ _ _ _ q => q)⟩ t6
    rcases get_app hj with hj | ⟨_, hj⟩
    · rcases backE_get hj with ⟨h1, h2⟩ | ⟨h1, h2⟩
      · rw [List.getD_eq_getElem?_getD] at h2
        cases e : ρ1[j]? with
        | none => rw [e] at h2; cases h2
        | some s =>
          rw [e] at h2
          have h3 : s = .val d := h2.symm
          rw [h3] at e
          obtain ⟨v, p1, p2⟩ := R1.val j d e
          exact ⟨v, get_init p1, p2.mono sg5⟩
      · obtain ⟨v, p1, p2⟩ := R5.val j d (get_init h2)
        have hjl := (List.getElem?_eq_some_iff.mp h2).1
        rw [List.getElem?_append_left (by omega), wipe_out h1] at p1
        exact ⟨v, get_init p1, p2⟩
    · cases hj
end
end Mi
namespace Mi
open PySem PySem.Spec PyProof.Rows L2
/-! ### statements -/
/-- the slots outside A hold what they held -/
structure SAg (A : Nat → Prop) (σ σ' : L2.St) : Prop where
  at_ : ∀ i, ¬ A i → σ'[i]? = σ[i]?
  len : σ'.length = σ.length
theorem SAg.refl {A : Nat → Prop} {σ : L2.St} : SAg A σ σ := ⟨fun _ _ => rfl, rfl⟩
theorem SAg.trans {A : Nat → Prop} {σ σ1 σ2 : L2.St} (a : SAg A σ σ1) (b : SAg A σ1 σ2) : SAg A σ σ2 := ⟨fun i h => (b.at_ i h).trans (a.at_ i h), b.len.trans a.len⟩
structure Ds (T : Tx) (W : WX) (A : Nat → Prop) (ρ0 : Env) (σ0 : L2.St) (G0 H0 : Hp) (K : Ks) (Q : Ends) : Prop where
  nx : ∀ ρ σ G H, SAg A σ0 σ → Step (FpE ρ0 σ0 H0) (FpE ρ σ H) G0 H0 G H → Rep T ρ σ G H → K.nx ρ → Q.nx σ H
  bk : ∀ ρ σ G H, SAg A σ0 σ → Step (FpE ρ0 σ0 H0) (FpE ρ σ H) G0 H0 G H → Rep T ρ σ G H → K.bk ρ → Q.bk σ H
  ct : ∀ ρ σ G H, SAg A σ0 σ → Step (FpE ρ0 σ0 H0) (FpE ρ σ H) G0 H0 G H → Rep T ρ σ G H → K.ct ρ → Q.ct σ H
  rt : ∀ r v ρ σ G H, SAg A σ0 σ → Step (FpE ρ0 σ0 H0) (FpR ρ σ r v H) G0 H0 G H → RepR T ρ σ r v G H → (∀ i, r ≠ .slot i) → K.rt r ρ → Q.rt v H
  ex : ∀ x cls d ρ σ G H, SAg A σ0 σ → Step (FpE ρ0 σ0 H0) (FpE ρ σ H) G0 H0 G H → Rep T ρ σ G H → XAt T G x cls d → K.ex x ρ → W cls d σ H
abbrev WS := Env → Ks → Prop
def dS (T : Tx) (W : WX) (A : Nat → Prop) (w : WS) : TS := fun Q σ H => ∃ ρ G K, Rep T ρ σ G H ∧ w ρ K ∧ Ds T W A ρ σ G H K Q
section
variable {X : Cx} {T : Tx} {W : WX} {Γ : Nat → FS} {A : Nat → Prop} {ρ ρ' : Env} {σ σ' : L2.St} {G G' H H' : Hp} {K : Ks} {Q : Ends}
theorem Ds.next (d : Ds T W A ρ σ G H K Q) (a : SAg A σ σ') (S : Step (FpE ρ σ H) (FpE ρ' σ' H') G H G' H') : Ds T W A ρ' σ' G' H' K Q :=
  ⟨fun ρ2 σ2 G2 H2 a2 S2 R2 q => d.nx ρ2 σ2 G2 H2 (a.trans a2) (S.trans S2) R2 q, fun ρ2 σ2 G2 H2 a2 S2 R2 q => d.bk ρ2 σ2 G2 H2 (a.trans a2) (S.trans S2) R2 q, fun ρ2 σ2 G2 H2 a2 S2 R2 q => d.ct ρ2 σ2 G2 H2 (a.trans a2) (S.trans S2) R2 q,
    fun r v ρ2 σ2 G2 H2 a2 S2 R2 hr q => d.rt r v ρ2 σ2 G2 H2 (a.trans a2) (S.trans S2) R2 hr q, fun x c e ρ2 σ2 G2 H2 a2 S2 R2 xa q => d.ex x c e ρ2 σ2 G2 H2 (a.trans a2) (S.trans S2) R2 xa q⟩
theorem Ds.dx (d : Ds T W A ρ σ G H K Q) : dX T W ρ σ G H K.ex := fun x c e ρ2 G2 H2 S2 R2 xa q => d.ex x c e ρ2 σ G2 H2 .refl S2 R2 xa q
abbrev SS (X : Cx) (T : Tx) (W : WX) (A : Nat → Prop) (Γ : Nat → FS) (st : Stmt) (ir : IS) : Prop := PS X st (dS T W A (wpS Γ ir))
abbrev SSs (X : Cx) (T : Tx) (W : WX) (A : Nat → Prop) (Γ : Nat → FS) (st : List Stmt) (ir : List IS) : Prop := PSs X st (dS T W A (wpSs Γ ir))
theorem ps_weak {st : Stmt} {t t' : TS} (h : PS X st t) (k : ∀ Q σ H, t' Q σ H → t Q σ H) : PS X st t' := ⟨fun pins s σ H Q I q => h.run pins s σ H Q I (k Q σ H q)⟩
theorem pss_weak {st : List Stmt} {t t' : TS} (h : PSs X st t) (k : ∀ Q σ H, t' Q σ H → t Q σ H) : PSs X st t' := ⟨fun pins s σ H Q I q => h.run pins s σ H Q I (k Q σ H q)⟩
theorem sss_nil : SSs X T W A Γ [] [] := by
  refine pss_weak pss_nil fun Q σ H ⟨ρ, G, K, R, w, d⟩ => ?_
  exact d.nx ρ σ G H .refl (Step.refl fun _ h => h) R w
theorem sss_cons {st : Stmt} {rest : List Stmt} {s : IS} {r : List IS} (h1 : SS X T W A Γ st s) (h2 : SSs X T W A Γ rest r) : SSs X T W A Γ (st :: rest) (s :: r) := by
  refine pss_weak (pss_cons h1 h2) fun Q σ H ⟨ρ, G, K, R, w, d⟩ => ?_
  exact ⟨ρ, G, { K with nx := fun ρ1 => wpSs Γ r ρ1 K }, R, w, ⟨fun ρ1 σ1 G1 H1 a1 S1 R1 q1 => ⟨ρ1, G1, K, R1, q1, d.next a1 S1⟩, d.bk, d.ct, d.rt, d.ex⟩⟩
theorem ss_pas {pos : Pos} : SS X T W A Γ (.Pass pos) .pas := ps_weak ps_pass fun Q σ H ⟨ρ, G, K, R, w, d⟩ => d.nx ρ σ G H .refl (Step.refl fun _ h => h) R w
theorem ss_brk {pos : Pos} : SS X T W A Γ (.Break pos) .brk := ps_weak ps_break fun Q σ H ⟨ρ, G, K, R, w, d⟩ => d.bk ρ σ G H .refl (Step.refl fun _ h => h) R w
theorem ss_cnt {pos : Pos} : SS X T W A Γ (.Continue pos) .cnt := ps_weak ps_continue fun Q σ H ⟨ρ, G, K, R, w, d⟩ => d.ct ρ σ G H .refl (Step.refl fun _ h => h) R w
theorem ss_exp {e : Expr} {ir : IE} {pos : Pos} (h : SE X T W Γ e ir) (hs : swapsWith e none pos.line X.env = pure false) : SS X T W A Γ (.Expr e pos) (.exp ir) := by
  refine ps_weak (ps_expr (pe_opd h) hs) fun Q σ H ⟨ρ, G, K, R, w, d⟩ => ?_
  exact ⟨ρ, G, _, K.ex, R, w, fun x v ρ1 G1 H1 S1 R1 o1 q1 => d.nx ρ1 σ G1 H1 .refl S1 R1 q1, d.dx⟩
theorem ss_retN {pos : Pos} : SS X T W A Γ (.Return none pos) .retN := by
  refine ps_weak ps_retN fun Q σ H ⟨ρ, G, K, R, w, d⟩ => ?_
  exact d.rt (.val .non) .non ρ σ G H .refl (Step.refl fun _ h => h) ⟨R, rfl⟩ (fun i z => by cases z) w
/-- what a name owns goes out -/
theorem Rep.out {i : Nat} {c : Cell} {v : V} (R : Rep T ρ σ G H) (hi : ρ[i]? = some (.own c)) (hv : σ[i]? = some (some v)) : RepR T (ρ.set i .non) σ (.own c) v G H ∧ ∀ b, FpR (ρ.set i .non) σ (.own c) v H b → FpE ρ σ H b := by
  have il := (List.getElem?_eq_some_iff.mp hi).1
  have key : ∀ (j : Nat) (e : Cell), (ρ.set i .non ++ [.own c])[j]? = some (.own e) → ρ[if j = ρ.length then i else j]? = some (.own e) ∧ (σ ++ [some v])[j]? = σ[if j = ρ.length then i else j]? := fun j e h => by
    rcases get_app h with h | ⟨q, h⟩
    · have hj := (List.getElem?_eq_some_iff.mp h).1
      rw [List.length_set] at hj
      rw [if_neg (by omega), List.getElem?_append_left (by rw [← R.len]; exact hj)]
      by_cases e1 : j = i
      · subst e1; rw [List.getElem?_set_self il] at h; cases h
      · rw [List.getElem?_set_ne (Ne.symm e1)] at h; exact ⟨h, rfl⟩
    · cases h
      rw [List.length_set] at q
      rw [if_pos q, q]
      exact ⟨hi, by rw [R.len, get_last]; exact hv.symm⟩
  obtain ⟨a, ha, _⟩ := R.own i c hi
  rw [hv] at ha
  refine ⟨⟨⟨a, by cases ha; rfl⟩, R.re (by simp [R.len]) (fun j d h => ?_) (fun j => if j = ρ.length then i else j) key (fun j k e1 e2 h1 h2 q => ?_)⟩, fun b h => FpE.re (fun j => if j = ρ.length then i else j) key h⟩
  · rcases get_app h with h | ⟨_, h⟩
    · by_cases e1 : j = i
      · subst e1; rw [List.getElem?_set_self il] at h; cases h
      · rw [List.getElem?_set_ne (Ne.symm e1)] at h
        obtain ⟨w, h1, h2⟩ := R.val j d h
        exact ⟨w, get_init h1, h2⟩
    · cases h
  · have ni : ∀ {j : Nat} {e : Cell}, (ρ.set i .non)[j]? = some (.own e) → j ≠ i ∧ j < ρ.length := fun {j e} h => by
      have hj := (List.getElem?_eq_some_iff.mp h).1
      rw [List.length_set] at hj
      refine ⟨fun z => ?_, hj⟩
      subst z
      rw [List.getElem?_set_self il] at h
      cases h
    rcases get_app h1 with h1 | ⟨q1, _⟩ <;> rcases get_app h2 with h2 | ⟨q2, _⟩
    · obtain ⟨n1, l1⟩ := ni h1
      obtain ⟨n2, l2⟩ := ni h2
      rw [if_neg (by omega), if_neg (by omega)] at q
      exact q
    · obtain ⟨n1, l1⟩ := ni h1
      rw [List.length_set] at q2
      rw [if_neg (by omega), if_pos q2] at q
      exact absurd q n1
    · obtain ⟨n2, l2⟩ := ni h2
      rw [List.length_set] at q1
      rw [if_pos q1, if_neg (by omega)] at q
      exact absurd q.symm n2
    · omega
theorem ss_ret {e : Expr} {ir : IE} {pos : Pos} (h : SE X T W Γ e ir) : SS X T W A Γ (.Return (some e) pos) (.ret ir) := by
  refine ps_weak (ps_ret h) fun Q σ H ⟨ρ, G, K, R, w, d⟩ => ?_
  refine ⟨ρ, G, _, K.ex, R, w, fun r v ρ1 G1 H1 S1 R1 q1 => ?_, d.dx⟩
  cases r with
  | val x => exact d.rt (.val x) v ρ1 σ G1 H1 .refl S1 R1 (fun i z => by cases z) q1
  | own c => exact d.rt (.own c) v ρ1 σ G1 H1 .refl S1 R1 (fun i z => by cases z) q1
  | slot i =>
    have q2 : (match ρ1[i]? with | some (.own c) => K.rt (.own c) (ρ1.set i .non) | _ => False) := q1
    split at q2
    · rename_i c hc
      obtain ⟨R2, f2⟩ := R1.1.out hc R1.2
      exact d.rt (.own c) v (ρ1.set i .non) σ G1 H1 .refl (S1.trans (Step.refl f2)) R2 (fun i z => by cases z) q2
    · exact q2.elim
theorem ss_ite {c : Expr} {a b : List Stmt} {ic : IE} {ia ib : List IS} {pos : Pos} (hc : ST X T W Γ c ic) (ha : SSs X T W A Γ a ia) (hb : SSs X T W A Γ b ib) : SS X T W A Γ (.If c a b pos) (.ite ic ia ib) := by
  refine ps_weak (ps_if hc ha hb) fun Q σ H ⟨ρ, G, K, R, w, d⟩ => ?_
  refine ⟨ρ, G, fun k ρ1 => if k = true then wpSs Γ ia ρ1 K else wpSs Γ ib ρ1 K, K.ex, R, w, fun k ρ1 G1 H1 S1 R1 q1 => ?_, d.dx⟩
  cases k with
  | true => exact iteT ⟨ρ1, G1, K, R1, q1, d.next .refl S1⟩
  | false => exact iteF ⟨ρ1, G1, K, R1, q1, d.next .refl S1⟩
/-! ### a value for a slot -/
def dQ (T : Tx) (W : WX) (w : WT) : TE := fun σ H Q => ∃ (ρ : Env) (G : Hp) (Qp : Slot → Env → Prop) (Ep : Xc → Env → Prop), Rep T ρ σ G H ∧ w ρ (fun r ρ1 => slotW r ρ1 Qp) Ep ∧
  (∀ s v ρ' G' H', s ≠ .non → Step (FpE ρ σ H) (FpE (ρ' ++ [s]) (σ ++ [some v]) H') G H G' H' → Rep T (ρ' ++ [s]) (σ ++ [some v]) G' H' → Qp s ρ' → Q v H') ∧ dX T W ρ σ G H Ep
theorem Rep.pushVal {d : D} {v : V} (R : Rep T ρ σ G H) (hd : Dp T G d v) : Rep T (ρ ++ [.val d]) (σ ++ [some v]) G H ∧ ∀ b, FpE (ρ ++ [.val d]) (σ ++ [some v]) H b → FpE ρ σ H b := by
  have key : ∀ (j : Nat) (c : Cell), (ρ ++ [.val d])[j]? = some (.own c) → ρ[j]? = some (.own c) ∧ (σ ++ [some v])[j]? = σ[j]? := fun j c h => by
    rcases get_app h with h | ⟨_, h⟩
    · exact ⟨h, List.getElem?_append_left (by rw [← R.len]; exact (List.getElem?_eq_some_iff.mp h).1)⟩
    · cases h
  refine ⟨R.re (by simp [R.len]) (fun j e h => ?_) (fun j => j) key (fun _ _ _ _ _ _ q => q), fun b h => FpE.re (fun j => j) key h⟩
  rcases get_app h with h | ⟨q, h⟩
  · obtain ⟨w, h1, h2⟩ := R.val j e h
    exact ⟨w, get_init h1, h2⟩
  · cases h
    subst q
    exact ⟨v, by rw [R.len]; exact get_last, hd⟩
theorem pe_slot {e : Expr} {w : WT} (h : PE X e (dG T W w)) : PE X e (dQ T W w) := by
  refine pe_weak (pe_lockv h) fun σ H Q ⟨ρ, G, Qp, Ep, R, hw, hq, he⟩ => ?_
  refine ⟨ρ, G, _, Ep, R, hw, fun r v ρ1 G1 H1 S1 R1 q1 => ?_, he⟩
  cases r with
  | val d =>
    obtain ⟨R2, f2⟩ := R1.1.pushVal R1.2
    exact .inl (hq (.val d) v ρ1 G1 H1 (fun z => by cases z) (S1.trans (Step.refl f2)) R2 q1)
  | own c => exact .inl (hq (.own c) v ρ1 G1 H1 (fun z => by cases z) S1 R1.2 q1)
  | slot i =>
    have q2 : (match ρ1[i]? with | some (.own c) => c.fz = true ∧ Qp (.val c.d) (ρ1.set i (.val c.d)) | _ => False) := q1
    split at q2
    · rename_i c e
      refine frz_go R1.1 e R1.2 q2.1 fun G' H' R' S' d' => ?_
      obtain ⟨R2, f2⟩ := R'.pushVal d'
      exact hq (.val c.d) v _ G' H' (fun z => by cases z) ((S1.trans S').trans (Step.refl f2)) R2 q2.2
    · exact q2.elim
/-- the last one goes into a slot -/
theorem Rep.toSlot {s : Slot} {v : V} {i : Nat} (R : Rep T (ρ ++ [s]) (σ ++ [some v]) G H) (hi : i < ρ.length) (hs : s ≠ .non) : Rep T (ρ.set i s) (σ.set i (some v)) G H ∧ ∀ b, FpE (ρ.set i s) (σ.set i (some v)) H b → FpE (ρ ++ [s]) (σ ++ [some v]) H b := by
  have hl : ρ.length = σ.length := by simpa using R.len
  have is : i < σ.length := by omega
  have key : ∀ (j : Nat) (e : Cell), (ρ.set i s)[j]? = some (.own e) → (ρ ++ [s])[if j = i then ρ.length else j]? = some (.own e) ∧ (σ.set i (some v))[j]? = (σ ++ [some v])[if j = i then ρ.length else j]? := fun j e h => by
    by_cases e1 : j = i
    · subst e1
      rw [List.getElem?_set_self hi] at h
      rw [if_pos rfl]
      exact ⟨by rw [get_last]; exact h, by rw [List.getElem?_set_self is, hl, get_last]⟩
    · rw [List.getElem?_set_ne (Ne.symm e1)] at h
      have hj := (List.getElem?_eq_some_iff.mp h).1
      rw [if_neg e1]
      exact ⟨get_init h, by rw [List.getElem?_set_ne (Ne.symm e1), List.getElem?_append_left (by omega)]⟩
  refine ⟨R.re (by simp [hl]) (fun j d h => ?_) (fun j => if j = i then ρ.length else j) key (fun j k e1 e2 h1 h2 q => ?_), fun b h => FpE.re (fun j => if j = i then ρ.length else j) key h⟩
  · by_cases e1 : j = i
    · subst e1
      rw [List.getElem?_set_self hi] at h
      cases h
      obtain ⟨w, h1, h2⟩ := R.val ρ.length d get_last
      rw [hl, get_last] at h1
      exact ⟨w, by rw [List.getElem?_set_self is]; exact h1, h2⟩
    · rw [List.getElem?_set_ne (Ne.symm e1)] at h ⊢
      obtain ⟨w, h1, h2⟩ := R.val j d (get_init h)
      rw [List.getElem?_append_left (by have := (List.getElem?_eq_some_iff.mp h).1; omega)] at h1
      exact ⟨w, h1, h2⟩
  · have hj := (List.getElem?_eq_some_iff.mp h1).1
    have hk := (List.getElem?_eq_some_iff.mp h2).1
    rw [List.length_set] at hj hk
    by_cases e1 : j = i <;> by_cases e2 : k = i
    · omega
    · rw [if_pos e1, if_neg e2] at q; omega
    · rw [if_neg e1, if_pos e2] at q; omega
    · rw [if_neg e1, if_neg e2] at q; exact q
theorem asg_go {i : Nat} {e : Expr} {w : WT} {Q : Ends} (hA : A i) (h : dS T W A (fun ρ K => w ρ (fun r ρ1 => slotW r ρ1 fun s ρ2 => i < ρ2.length ∧ K.nx (ρ2.set i s)) K.ex) Q σ H) : dQ T W w σ H fun x H1 => gName i x σ H1 Q.nx := by
  obtain ⟨ρ, G, K, R, hw, d⟩ := h
  refine ⟨ρ, G, _, K.ex, R, hw, fun s v ρ1 G1 H1 hs S1 R1 q1 => ?_, d.dx⟩
  obtain ⟨hi, q1⟩ := q1
  obtain ⟨R2, f2⟩ := R1.toSlot hi hs
  exact d.nx _ _ G1 H1 ⟨fun j hj => List.getElem?_set_ne (fun z => hj (by rw [← z]; exact hA)), by simp⟩ (S1.trans (Step.refl f2)) R2 q1
theorem ss_asg {i : Nat} {x : Str} {e : Expr} {ir : IE} {pos pos' : Pos} (hN : X.N.Nodup) (hi : X.N[i]? = some x) (hx : Loc X.env.scope x) (hf : X.fn x = true ∨ X.env.scope.names.lookup x = some .local) (hA : A i) (h : SE X T W Γ e ir) (hs : swapsWith e (some (.Name x pos')) pos.line X.env = pure false) :
    SS X T W A Γ (.Assign [.Name x pos'] e pos) (.asg (.name i) ir) :=
  ps_weak (ps_set hN hi hx (pe_slot h) hs hf) fun Q σ H q => asg_go (e := e) hA q
/-- a target of any form -/
theorem ss_asgT {tg e : Expr} {ti : List Tg} {ir : IE} {pos : Pos} (hA : ∀ i ∈ (Tg.tup ti).slots, A i) (h : SE X T W Γ e ir) (hg : PG X tg (dTg T (.tup ti))) (hs : swapsWithSole [tg] e pos.line X.env = pure false) (hw : swappedStores [tg] e X.env = pure none) (h1 : (assignEach [tg] X.env).map (·.2) = [assign tg X.env]) :
    SS X T W A Γ (.Assign [tg] e pos) (.asg (.tup ti) ir) := by
  refine ps_weak (ps_asg (pe_frz h) hg hs hw h1) fun Q σ H ⟨ρ, G, K, R, w, d⟩ => ?_
  refine ⟨ρ, G, _, K.ex, R, w, fun y v ρ1 G1 H1 S1 R1 dv q1 => ?_, d.dx⟩
  have q2 : (match bindT (.tup ti) y ρ1 with | some ρ3 => K.nx ρ3 | none => False) := q1
  split at q2
  · rename_i ρ3 hb
    exact ⟨ρ1, G1, y, ρ3, R1, dv, hb, fun σ' R' s' l' f' => d.nx ρ3 σ' G1 H1 ⟨fun j hj => s' j fun z => hj (hA j z), l'⟩ (S1.trans (Step.refl f')) R' q2⟩
  · exact q2.elim
/-! ### for -/
theorem SAg.weak {B : Nat → Prop} {σ σ' : L2.St} (h : SAg B σ σ') (k : ∀ i, B i → A i) : SAg A σ σ' := ⟨fun i hi => h.at_ i fun z => hi (k i z), h.len⟩
theorem for_go {ti : Tg} {ii : II} {ib : List IS} {Q : Ends} (hA1 : ∀ i ∈ ti.slots ++ asgSs ib, A i) (h : dS T W A (wpS Γ (.for ti ii ib)) Q σ H) : tFor (dI T W (wpI Γ ii)) (dTg T ti) (dS T W (· ∈ ti.slots ++ asgSs ib) (wpSs Γ ib)) Q σ H := by
  obtain ⟨ρ, G, K, R, w, d⟩ := h
  refine ⟨ρ, G, _, K.ex, R, w, fun g ds ρ1 G1 H1 J a S1 R1 src wk q1 => ?_, d.dx⟩
  obtain ⟨gA, q1⟩ := q1
  have srcOk : ∀ {ρ2 : Env} {σ2 : L2.St}, SAg (· ∈ ti.slots ++ asgSs ib) σ σ2 → Guard g ds ρ2 → SrcAt g ds a ρ2 σ2 := fun {ρ2 σ2} ag gd => by
    cases g with
    | none => trivial
    | some i => exact ⟨gd, by rw [ag.at_ i (gA i rfl)]; exact src.2⟩
  refine ⟨fun i m σ2 H2 => m = ds.length - i ∧ i ≤ ds.length ∧ ∃ ρ2 G2, Rep T ρ2 σ2 G2 H2 ∧ SAg (· ∈ ti.slots ++ asgSs ib) σ σ2 ∧ Step (FpE ρ σ H) (FpE ρ2 σ2 H2) G H G2 H2 ∧ Same G1 G2 ∧ SrcAt g ds a ρ2 σ2 ∧ forL g ds (bindT ti) (wpSs Γ ib) K (ds.drop i) ρ2,
    ⟨_, rfl, Nat.zero_le _, ρ1, G1, R1, .refl, S1, Same.refl _, src, q1⟩, ?_⟩
  rintro i m σ2 H2 ⟨rfl, hi, ρ2, G2, R2, a2, S2, sg2, src2, t2⟩
  by_cases hlt : i < ds.length
  · refine .inr ⟨wk.go i ρ2 σ2 G2 H2 hlt R2 sg2 src2, fun σ3 H3 => ∃ ρ3 G3, Rep T ρ3 σ3 G3 H3 ∧ SAg (· ∈ ti.slots ++ asgSs ib) σ σ3 ∧ Step (FpE ρ σ H) (FpE ρ3 σ3 H3) G H G3 H3 ∧ Same G1 G3 ∧ SrcAt g ds a ρ3 σ3 ∧ forL g ds (bindT ti) (wpSs Γ ib) K (ds.drop (i + 1)) ρ3, ?_, ?_⟩
    · rintro σ3 H3 ⟨ρ3, G3, p1, p2, p3, p4, p5, p6⟩
      exact ⟨ds.length - (i + 1), by omega, rfl, hlt, ρ3, G3, p1, p2, p3, p4, p5, p6⟩
    · intro x H3 hy
      obtain ⟨G3, y, n3, hd, dx⟩ := wk.yld i ρ2 σ2 G2 H2 x H3 hlt R2 sg2 src2 hy
      have hdrop : ds.drop i = y :: ds.drop (i + 1) := by
        rw [List.drop_eq_getElem_cons hlt]
        rw [List.getElem?_eq_getElem hlt] at hd
        cases hd
        rfl
      rw [hdrop] at t2
      unfold forL at t2
      split at t2
      · rename_i ρ3 hb
        have R3 := R2.grow n3
        have S3 := R2.growStep n3
        refine ⟨ρ2, G3, y, ρ3, R3, dx, hb, fun σ3 R4 s4 l4 f4 => ?_⟩
        have a4 : SAg (· ∈ ti.slots ++ asgSs ib) σ2 σ3 := ⟨fun j hj => s4 j fun z => hj (List.mem_append_left _ z), l4⟩
        have S4 : Step (FpE ρ σ H) (FpE ρ3 σ3 H3) G H G3 H3 := (S2.trans S3).trans (Step.refl f4)
        refine ⟨ρ3, G3, _, R4, t2, ⟨fun ρ5 σ5 G5 H5 a5 S5 R5 q5 => ?_, fun ρ5 σ5 G5 H5 a5 S5 R5 q5 => ?_, fun ρ5 σ5 G5 H5 a5 S5 R5 q5 => ?_, fun r v ρ5 σ5 G5 H5 a5 S5 R5 hr q5 => ?_, fun y c e ρ5 σ5 G5 H5 a5 S5 R5 xa q5 => ?_⟩⟩
        · exact ⟨ρ5, G5, R5, (a2.trans a4).trans a5, S4.trans S5, sg2.trans (n3.gs.trans S5.gs), srcOk ((a2.trans a4).trans a5) q5.1, q5.2⟩
        · exact d.nx ρ5 σ5 G5 H5 (((a2.trans a4).trans a5).weak hA1) (S4.trans S5) R5 q5
        · exact ⟨ρ5, G5, R5, (a2.trans a4).trans a5, S4.trans S5, sg2.trans (n3.gs.trans S5.gs), srcOk ((a2.trans a4).trans a5) q5.1, q5.2⟩
        · exact d.rt r v ρ5 σ5 G5 H5 (((a2.trans a4).trans a5).weak hA1) (S4.trans S5) R5 hr q5
        · exact d.ex y c e ρ5 σ5 G5 H5 (((a2.trans a4).trans a5).weak hA1) (S4.trans S5) R5 xa q5
      · exact t2.elim
  · have ei : i = ds.length := by omega
    subst ei
    rw [List.drop_length] at t2
    exact .inl ⟨wk.stop ρ2 σ2 G2 H2 R2 sg2 src2, d.nx ρ2 σ2 G2 H2 (a2.weak hA1) S2 R2 t2⟩
theorem ss_for {tg it : Expr} {b : List Stmt} {ti : Tg} {ii : II} {ib : List IS} {pos : Pos} (hA : ∀ i ∈ ti.slots ++ asgSs ib, A i) (hp : PassesOwn (model X.prog X.w) X.A X.env X.xe) (hc : X.calm = true) (hi : SI X T W Γ tg it ii) (hg : PG X tg (dTg T ti)) (hb : SSs X T W (· ∈ ti.slots ++ asgSs ib) Γ b ib) (hs : ∀ x, foldedSetIterable it X.env x = pure x) :
    SS X T W A Γ (.For tg it b [] pos) (.for ti ii ib) := ps_weak (ps_for hp hc hi hg hb hs) fun Q σ H q => for_go hA q
end
end Mi
namespace Mi
open PySem PySem.Spec PyProof.Rows L2
section
variable {X : Cx} {T : Tx} {W : WX} {Γ : Nat → FS} {A : Nat → Prop} {ρ ρ' : Env} {σ σ' : L2.St} {G G' H H' : Hp} {K : Ks} {Q : Ends}
/-! ### locking behind a statement -/
def Lk (P : Hp → Prop) (H : Hp) : Prop := P H ∨ ∃ d u, H d = some u ∧ Mut (some u) ∧ ∀ od, P (upd H d (.frz od u))
theorem ps_lockn {st : Stmt} {t : TS} (h : PS X st t) : PS X st (fun Q => t { Q with nx := fun σ H => Lk (Q.nx σ) H }) := by
  refine ⟨fun pins s σ H Q I q => thn (h.run pins s σ H _ I q) fun f s1 q1 => ?_⟩
  cases f with
  | next =>
    obtain ⟨σ1, H1, I1, q1⟩ := q1
    rcases q1 with q1 | ⟨d, u, hd, mu, q1⟩
    · exact ⟨σ1, H1, I1, q1⟩
    · obtain ⟨od, I2⟩ := I1.lock hd mu
      exact ⟨σ1, _, I2, q1 od⟩
  | brk => exact q1
  | cont => exact q1
  | ret u => exact q1
theorem lk_imp {P P' : Hp → Prop} (k : ∀ H, P H → P' H) {H : Hp} (h : Lk P H) : Lk P' H := by
  rcases h with h | ⟨d, u, h1, h2, h3⟩
  · exact .inl (k _ h)
  · exact .inr ⟨d, u, h1, h2, fun od => k _ (h3 od)⟩
/-- into a slot, frozen first or not -/
theorem asg_goL {i : Nat} {w : WT} {Q : Ends} (hA : A i) (h : dS T W A (fun ρ K => w ρ (fun r ρ1 => slotW r ρ1 fun s ρ2 => i < ρ2.length ∧ K.nx (ρ2.set i s)) K.ex) Q σ H) : dG T W w σ H fun x H1 => Lk (fun H2 => gName i x σ H2 Q.nx) H1 := by
  obtain ⟨ρ, G, K, R, hw, d⟩ := h
  have fin : ∀ {s : Slot} {v : V} {ρ1 : Env} {G1 H1 : Hp}, s ≠ .non → Step (FpE ρ σ H) (FpE (ρ1 ++ [s]) (σ ++ [some v]) H1) G H G1 H1 → Rep T (ρ1 ++ [s]) (σ ++ [some v]) G1 H1 → i < ρ1.length → K.nx (ρ1.set i s) → gName i v σ H1 Q.nx := by
    intro s v ρ1 G1 H1 hs S1 R1 hi q1
    obtain ⟨R2, f2⟩ := R1.toSlot hi hs
    exact d.nx _ _ G1 H1 ⟨fun j hj => List.getElem?_set_ne (fun z => hj (by rw [← z]; exact hA)), by simp⟩ (S1.trans (Step.refl f2)) R2 q1
  refine ⟨ρ, G, _, K.ex, R, hw, fun r v ρ1 G1 H1 S1 R1 q1 => ?_, d.dx⟩
  cases r with
  | val d =>
    obtain ⟨R2, f2⟩ := R1.1.pushVal R1.2
    exact .inl (fin (fun z => by cases z) (S1.trans (Step.refl f2)) R2 q1.1 q1.2)
  | own c => exact .inl (fin (fun z => by cases z) S1 R1.2 q1.1 q1.2)
  | slot i =>
    have q2 : (match ρ1[i]? with | some (.own c) => c.fz = true ∧ _ ∧ K.nx ((ρ1.set i (.val c.d)).set _ (.val c.d)) | _ => False) := q1
    split at q2
    · rename_i c e
      refine frz_go (Q := fun v H2 => gName _ v σ H2 Q.nx) R1.1 e R1.2 q2.1 fun G' H' R' S' d' => ?_
      obtain ⟨R2, f2⟩ := R'.pushVal d'
      exact fin (fun z => by cases z) ((S1.trans S').trans (Step.refl f2)) R2 q2.2.1 q2.2.2
    · exact q2.elim
theorem asg_goF {i : Nat} {w : WT} {Q : Ends} (hA : A i) (h : dS T W A (fun ρ K => frzT w ρ (fun r ρ1 => slotW r ρ1 fun s ρ2 => i < ρ2.length ∧ K.nx (ρ2.set i s)) K.ex) Q σ H) : dG T W w σ H fun x H1 => Lk (fun H2 => gName i x σ H2 Q.nx) H1 := by
  obtain ⟨ρ, G, K, R, hw, d⟩ := h
  have fin : ∀ {s : Slot} {v : V} {ρ1 : Env} {G1 H1 : Hp}, s ≠ .non → Step (FpE ρ σ H) (FpE (ρ1 ++ [s]) (σ ++ [some v]) H1) G H G1 H1 → Rep T (ρ1 ++ [s]) (σ ++ [some v]) G1 H1 → i < ρ1.length → K.nx (ρ1.set i s) → gName i v σ H1 Q.nx := by
    intro s v ρ1 G1 H1 hs S1 R1 hi q1
    obtain ⟨R2, f2⟩ := R1.toSlot hi hs
    exact d.nx _ _ G1 H1 ⟨fun j hj => List.getElem?_set_ne (fun z => hj (by rw [← z]; exact hA)), by simp⟩ (S1.trans (Step.refl f2)) R2 q1
  refine ⟨ρ, G, _, K.ex, R, hw, fun r v ρ1 G1 H1 S1 R1 q1 => ?_, d.dx⟩
  cases r with
  | val d =>
    obtain ⟨R2, f2⟩ := R1.1.pushVal R1.2
    exact .inl (fin (fun z => by cases z) (S1.trans (Step.refl f2)) R2 q1.1 q1.2)
  | own c =>
    refine frz_fresh (Q := fun v H2 => gName _ v σ H2 Q.nx) R1.2 q1.1 S1 fun G' H' R' S' d' => ?_
    obtain ⟨R2, f2⟩ := R'.pushVal d'
    exact fin (fun z => by cases z) (S'.trans (Step.refl f2)) R2 q1.2.1 q1.2.2
  | slot i =>
    have q2 : (match ρ1[i]? with | some (.own c) => c.fz = true ∧ frzR (.val c.d) (ρ1.set i (.val c.d)) (fun r ρ1 => slotW r ρ1 fun s ρ2 => _ < ρ2.length ∧ K.nx (ρ2.set _ s)) | _ => False) := q1
    split at q2
    · rename_i c e
      refine frz_go (Q := fun v H2 => gName _ v σ H2 Q.nx) R1.1 e R1.2 q2.1 fun G' H' R' S' d' => ?_
      obtain ⟨R2, f2⟩ := R'.pushVal d'
      exact fin (fun z => by cases z) ((S1.trans S').trans (Step.refl f2)) R2 q2.2.1 q2.2.2
    · exact q2.elim
/-! ### comprehensions -/
/-- what a comprehension's parts need -/
structure Lcp (X : Cx) (T : Tx) (W : WX) (Γ : Nat → FS) (elt tg iter : Expr) (ifs : List Expr) (scope : Scope) (own : List (Str × Nat)) (ti : Tg) (ii : II) (io : Option IE) (ie : IE) : Prop where
  hi : SI X T W Γ tg iter ii
  ok : BlkOk X.N X.env.scope scope own
  hg : ∀ (s : Shared) (H : Hp) (C : Addr) (cl : List (Str × Addr)) (fp : List Addr), PG (X.blk s H scope (compEnvC scope cl C X.env) fp) tg (dTg T ti)
  ht : ∀ (s : Shared) (H : Hp) (C : Addr) (cl : List (Str × Addr)) (fp : List Addr), SF (X.blk s H scope (compEnvC scope cl C X.env) fp) T Γ ifs io
  he : ∀ (s : Shared) (H : Hp) (C : Addr) (cl : List (Str × Addr)) (fp : List Addr), SE (X.blk s H scope (compEnvC scope cl C X.env) fp) T W0 Γ elt ie
  hs : ∀ x, foldedSetIterable iter X.env x = pure x
variable {elt tg iter : Expr} {ifs : List Expr} {scope : Scope} {own : List (Str × Nat)} {ti : Tg} {ii : II} {io : Option IE} {ie : IE} {pos : Pos}
theorem se_lcp (hc : X.calm = true) (hN : X.N.Nodup) (h : Lcp X T W Γ elt tg iter ifs scope own ti ii io ie) : SE X T W Γ (.ListComp elt [⟨tg, iter, ifs, 0⟩] scope pos) (.lcp ti ii io ie (own.map (·.2))) :=
  pe_weak (pe_lc hc hN h.hi h.ok h.hg h.ht (fun s H C cl fp => pe_frz (h.he s H C cl fp)) h.hs) fun σ H Q q => lcp_tLc q
theorem ss_asgLc {i : Nat} {y : Str} {py spos : Pos} (hA : A i) (hc : X.calm = true) (hN : X.N.Nodup) (hy : X.N[i]? = some y) (hyl : X.env.scope.names.lookup y = some .local) (hsw : swapsWith (.ListComp elt [⟨tg, iter, ifs, 0⟩] scope pos) (some (.Name y py)) spos.line X.env = pure true)
    (h : Lcp X T W Γ elt tg iter ifs scope own ti ii io ie) : SS X T W A Γ (.Assign [.Name y py] (.ListComp elt [⟨tg, iter, ifs, 0⟩] scope pos) spos) (.asg (.name i) (.lcp ti ii io ie (own.map (·.2)))) :=
  ps_weak (ps_lockn (ps_setLc hc hN hy hyl hsw h.hi h.ok h.hg h.ht (fun s H C cl fp => pe_frz (h.he s H C cl fp)) h.hs)) fun Q σ H q => lcp_tLc (asg_goL hA q)
theorem ss_asgLcF {i : Nat} {y : Str} {py spos : Pos} (hA : A i) (hc : X.calm = true) (hN : X.N.Nodup) (hy : X.N[i]? = some y) (hyl : X.env.scope.names.lookup y = some .local) (hsw : swapsWith (.ListComp elt [⟨tg, iter, ifs, 0⟩] scope pos) (some (.Name y py)) spos.line X.env = pure true)
    (h : Lcp X T W Γ elt tg iter ifs scope own ti ii io ie) : SS X T W A Γ (.Assign [.Name y py] (.ListComp elt [⟨tg, iter, ifs, 0⟩] scope pos) spos) (.asg (.name i) (.frz (.lcp ti ii io ie (own.map (·.2))))) :=
  ps_weak (ps_lockn (ps_setLc hc hN hy hyl hsw h.hi h.ok h.hg h.ht (fun s H C cl fp => pe_frz (h.he s H C cl fp)) h.hs)) fun Q σ H q => lcp_tLc (asg_goF (w := wp Γ (.lcp ti ii io ie (own.map (·.2)))) hA q)
/-! ### while, aug -/
theorem ss_whl {c : Expr} {b : List Stmt} {ic : IE} {ib : List IS} {pos : Pos} (hp : PassesOwn (model X.prog X.w) X.A X.env X.xe) (hc : ST X T W Γ c ic) (hb : SSs X T W A Γ b ib) : SS X T W A Γ (.While c b [] pos) (.whl ic ib) := by
  refine ps_weak (ps_while hp hc hb) fun Q σ H ⟨ρ, G, K, R, ⟨n, w⟩, d⟩ => ?_
  refine ⟨fun m σ2 H2 => ∃ ρ2 G2, Rep T ρ2 σ2 G2 H2 ∧ SAg A σ σ2 ∧ Step (FpE ρ σ H) (FpE ρ2 σ2 H2) G H G2 H2 ∧ whlN (fun ρ Q => wp Γ ic ρ (fun r ρ1 => opdR r ρ1 fun x ρ2 => truW (rdR ρ2 x) fun k => Q k ρ2) K.ex) (wpSs Γ ib) K m ρ2, ⟨n, ρ, G, R, .refl, Step.refl fun _ h => h, w⟩, ?_⟩
  rintro m σ2 H2 ⟨ρ2, G2, R2, a2, S2, w2⟩
  cases m with
  | zero => exact w2.elim
  | succ m =>
    refine ⟨ρ2, G2, _, K.ex, R2, w2, fun k ρ3 G3 H3 S3 R3 q3 => ?_, (d.next a2 S2).dx⟩
    cases k with
    | false => exact iteF (d.nx ρ3 σ2 G3 H3 a2 (S2.trans S3) R3 q3)
    | true =>
      refine iteT ⟨fun σ4 H4 => ∃ ρ4 G4, Rep T ρ4 σ4 G4 H4 ∧ SAg A σ σ4 ∧ Step (FpE ρ σ H) (FpE ρ4 σ4 H4) G H G4 H4 ∧ whlN (fun ρ Q => wp Γ ic ρ (fun r ρ1 => opdR r ρ1 fun x ρ2 => truW (rdR ρ2 x) fun k => Q k ρ2) K.ex) (wpSs Γ ib) K m ρ4, fun σ4 H4 h => ⟨m, Nat.lt_succ_self m, h⟩, ρ3, G3, _, R3, q3, ⟨fun ρ5 σ5 G5 H5 a5 S5 R5 q5 => ?_, fun ρ5 σ5 G5 H5 a5 S5 R5 q5 => ?_, fun ρ5 σ5 G5 H5 a5 S5 R5 q5 => ?_, fun r v ρ5 σ5 G5 H5 a5 S5 R5 hr q5 => ?_, fun y c e ρ5 σ5 G5 H5 a5 S5 R5 xa q5 => ?_⟩⟩
      · exact ⟨ρ5, G5, R5, a2.trans a5, (S2.trans S3).trans S5, q5⟩
      · exact d.nx ρ5 σ5 G5 H5 (a2.trans a5) ((S2.trans S3).trans S5) R5 q5
      · exact ⟨ρ5, G5, R5, a2.trans a5, (S2.trans S3).trans S5, q5⟩
      · exact d.rt r v ρ5 σ5 G5 H5 (a2.trans a5) ((S2.trans S3).trans S5) R5 hr q5
      · exact d.ex y c e ρ5 σ5 G5 H5 (a2.trans a5) ((S2.trans S3).trans S5) R5 xa q5
/-! ### a, b = x, y -/
theorem get_mid {α : Type} {l r : List α} {x y : α} {j : Nat} (h : (l ++ x :: r)[j]? = some y) : (j < l.length ∧ l[j]? = some y) ∨ (j = l.length ∧ x = y) ∨ (l.length < j ∧ r[j - l.length - 1]? = some y) := by
  by_cases h1 : j < l.length
  · rw [List.getElem?_append_left h1] at h; exact .inl ⟨h1, h⟩
  · rw [List.getElem?_append_right (by omega)] at h
    cases q : j - l.length with
    | zero => rw [q] at h; simp at h; exact .inr (.inl ⟨by omega, h⟩)
    | succ n => rw [q] at h; simp at h; exact .inr (.inr ⟨by omega, by rw [show n + 1 - 1 = n by omega]; exact h⟩)
theorem mid_lo {α : Type} {l r : List α} {x : α} {j : Nat} (h : j < l.length) : (l ++ x :: r)[j]? = l[j]? := List.getElem?_append_left h
theorem mid_at {α : Type} {l r : List α} {x : α} : (l ++ x :: r)[l.length]? = some x := by simp
theorem mid_hi {α : Type} {l r : List α} {x : α} {j : Nat} (h : l.length < j) : (l ++ x :: r)[j]? = (l ++ r)[j - 1]? := by
  rw [List.getElem?_append_right (by omega), List.getElem?_append_right (by omega)]
  obtain ⟨n, e⟩ : ∃ n, j = l.length + n + 1 := ⟨j - l.length - 1, by omega⟩
  subst e
  rw [show l.length + n + 1 - l.length = n + 1 by omega, show l.length + n + 1 - 1 - l.length = n by omega]
  rfl
theorem app_hi {α : Type} {l r : List α} {j : Nat} {y : α} (h : l.length < j) (e : r[j - l.length - 1]? = some y) : (l ++ r)[j - 1]? = some y := by
  rw [List.getElem?_append_right (by omega), show j - 1 - l.length = j - l.length - 1 by omega]; exact e
/-- the left one kept while the right ones come -/
theorem Rep.carryM {s : Slot} {v : V} {ss : List Slot} {vs : List (Option V)} (R : Rep T (ρ ++ [s]) (σ ++ [some v]) G H) (hs : s ≠ .non) (hl' : ρ'.length = σ.length) (R' : Rep T (ρ' ++ ss) (σ ++ vs) G' H') (S : Step (FpE ρ σ H) (FpE (ρ' ++ ss) (σ ++ vs) H') G H G' H') :
    Rep T (ρ' ++ s :: ss) (σ ++ some v :: vs) G' H' ∧ Step (FpE (ρ ++ [s]) (σ ++ [some v]) H) (FpE (ρ' ++ s :: ss) (σ ++ some v :: vs) H') G H G' H' := by
  have hl : ρ.length = σ.length := by simpa using R.len
  have hl2 : ss.length = vs.length := by have := R'.len; simp at this; omega
  refine R.merge (A := fun i => i < ρ.length) R' S (fun b ⟨i, e, a, h1, h2, h3⟩ => ⟨i, e, a, (List.getElem?_eq_some_iff.mp h1).1, get_init h1, get_init h2, h3⟩) (by simp [hl', hl2]) (fun j d h => ?_)
    (fun j => if j = ρ'.length then .inl ρ.length else .inr (if j < ρ'.length then j else j - 1)) (fun j e h => ?_) (fun i j e1 e2 h1 h2 q => ?_)
  · rcases get_mid h with ⟨hj, h⟩ | ⟨hj, h⟩ | ⟨hj, h⟩
    · obtain ⟨w, h1, h2⟩ := R'.val j d (by rw [List.getElem?_append_left hj]; exact h)
      rw [List.getElem?_append_left (by omega)] at h1
      exact ⟨w, by rw [mid_lo (by omega)]; exact h1, h2⟩
    · subst h
      obtain ⟨w, h1, h2⟩ := R.val ρ.length d get_last
      rw [hl, get_last] at h1
      exact ⟨w, by rw [hj, hl', mid_at]; exact h1, h2.mono S.gs⟩
    · obtain ⟨w, h1, h2⟩ := R'.val (j - 1) d (app_hi hj h)
      exact ⟨w, by rw [mid_hi (by omega)]; exact h1, h2⟩
  · rcases get_mid h with ⟨hj, h⟩ | ⟨hj, h⟩ | ⟨hj, h⟩
    · rw [if_neg (by omega), if_pos hj]
      exact .inr ⟨j, rfl, by rw [List.getElem?_append_left hj]; exact h, by rw [mid_lo (by omega), List.getElem?_append_left (by omega)]⟩
    · subst h
      rw [if_pos hj]
      refine .inl ⟨ρ.length, rfl, Nat.lt_irrefl _, get_last, ?_⟩
      rw [hj, hl', mid_at, hl, get_last]
    · rw [if_neg (by omega), if_neg (by omega)]
      exact .inr ⟨j - 1, rfl, app_hi hj h, mid_hi (by omega)⟩
  · by_cases c1 : i = ρ'.length <;> by_cases c2 : j = ρ'.length
    · omega
    · rw [if_pos c1, if_neg c2] at q; cases q
    · rw [if_neg c1, if_pos c2] at q; cases q
    · rw [if_neg c1, if_neg c2] at q
      have q := Sum.inr.inj q
      by_cases c3 : i < ρ'.length <;> by_cases c4 : j < ρ'.length
      · rw [if_pos c3, if_pos c4] at q; exact q
      · rw [if_pos c3, if_neg c4] at q; omega
      · rw [if_neg c3, if_pos c4] at q; omega
      · rw [if_neg c3, if_neg c4] at q; omega
/-- the leftmost kept one goes into a slot -/
theorem Rep.toSlotM {s : Slot} {v : V} {ss : List Slot} {vs : List (Option V)} {i : Nat} (hl : ρ.length = σ.length) (R : Rep T (ρ ++ s :: ss) (σ ++ some v :: vs) G H) (hi : i < ρ.length) (hs : s ≠ .non) :
    Rep T (ρ.set i s ++ ss) (σ.set i (some v) ++ vs) G H ∧ ∀ b, FpE (ρ.set i s ++ ss) (σ.set i (some v) ++ vs) H b → FpE (ρ ++ s :: ss) (σ ++ some v :: vs) H b := by
  have is : i < σ.length := by omega
  have hl2 : ss.length = vs.length := by have := R.len; simp at this; omega
  -- where a slot came from
  have key0 : ∀ (j : Nat) (e : Slot), (ρ.set i s ++ ss)[j]? = some e → (ρ ++ s :: ss)[if j = i then ρ.length else if j < ρ.length then j else j + 1]? = some e ∧ (σ.set i (some v) ++ vs)[j]? = (σ ++ some v :: vs)[if j = i then ρ.length else if j < ρ.length then j else j + 1]? := fun j e h => by
    by_cases e1 : j = i
    · subst e1
      rw [List.getElem?_append_left (by simpa using hi), List.getElem?_set_self hi] at h
      rw [if_pos rfl, mid_at]
      refine ⟨h, ?_⟩
      rw [List.getElem?_append_left (by simpa using is), List.getElem?_set_self is, hl, mid_at]
    · rw [if_neg e1]
      by_cases e2 : j < ρ.length
      · rw [List.getElem?_append_left (by simpa using e2), List.getElem?_set_ne (Ne.symm e1)] at h
        rw [if_pos e2, mid_lo e2, mid_lo (by omega), List.getElem?_append_left (by simp; omega), List.getElem?_set_ne (Ne.symm e1)]
        exact ⟨h, rfl⟩
      · rw [if_neg e2, mid_hi (by omega), mid_hi (by omega)]
        rw [List.getElem?_append_right (by simp; omega), List.length_set] at h
        refine ⟨by rw [show j + 1 - 1 = j by omega, List.getElem?_append_right (by omega)]; exact h, ?_⟩
        rw [show j + 1 - 1 = j by omega, List.getElem?_append_right (by simp; omega), List.getElem?_append_right (by omega), List.length_set]
  refine ⟨R.re (by simp [hl, hl2]) (fun j d h => ?_) (fun j => if j = i then ρ.length else if j < ρ.length then j else j + 1) (fun j e h => key0 j _ h) (fun j k e1 e2 h1 h2 q => ?_), fun b h => FpE.re (fun j => if j = i then ρ.length else if j < ρ.length then j else j + 1) (fun j e h => key0 j _ h) h⟩
  · obtain ⟨h1, h2⟩ := key0 j _ h
    obtain ⟨w, h3, h4⟩ := R.val _ d h1
    exact ⟨w, by rw [h2]; exact h3, h4⟩
  · by_cases e1 : j = i <;> by_cases e2 : k = i
    · omega
    · rw [if_pos e1, if_neg e2] at q
      by_cases e3 : k < ρ.length
      · rw [if_pos e3] at q; omega
      · rw [if_neg e3] at q; omega
    · rw [if_neg e1, if_pos e2] at q
      by_cases e3 : j < ρ.length
      · rw [if_pos e3] at q; omega
      · rw [if_neg e3] at q; omega
    · rw [if_neg e1, if_neg e2] at q
      by_cases e3 : j < ρ.length <;> by_cases e4 : k < ρ.length
      · rw [if_pos e3, if_pos e4] at q; exact q
      · rw [if_pos e3, if_neg e4] at q; omega
      · rw [if_neg e3, if_pos e4] at q; omega
      · rw [if_neg e3, if_neg e4] at q; omega
def dPr (T : Tx) (W : WX) (w : Env → (List Slot → Env → Prop) → (Xc → Env → Prop) → Prop) : TA := fun σ H Q => ∃ (ρ : Env) (G : Hp) (Qp : List Slot → Env → Prop) (Ep : Xc → Env → Prop), Rep T ρ σ G H ∧ w ρ Qp Ep ∧
  (∀ ss (vs : List V) ρ' G' H', (∀ s ∈ ss, s ≠ .non) → ss.length = vs.length → Step (FpE ρ σ H) (FpE (ρ' ++ ss) (σ ++ vs.map some) H') G H G' H' → Rep T (ρ' ++ ss) (σ ++ vs.map some) G' H' → Qp ss ρ' → Q vs H') ∧ dX T W ρ σ G H Ep
abbrev SPr (X : Cx) (T : Tx) (W : WX) (Γ : Nat → FS) (es : List Expr) (irs : List IE) : Prop := PA X es (dPr T W (wpP Γ irs))
theorem sp_nil : SPr X T W Γ [] [] := by
  refine pa_weak pa_nil fun σ H Q ⟨ρ, G, Qp, Ep, R, w, hq, he⟩ => ?_
  refine hq [] [] ρ G H (fun s h => by cases h) rfl (Step.refl fun _ h => ?_) ?_ w
  · simpa using h
  · simpa using R
theorem sp_cons {e : Expr} {es : List Expr} {ir : IE} {irs : List IE} (h : SE X T W Γ e ir) (hs : SPr X T W Γ es irs) (hst : starEach (e :: es) X.env = (false, eval e X.env) :: starEach es X.env) : SPr X T W Γ (e :: es) (ir :: irs) := by
  refine pa_weak (pa_cons (pe_slot h) hs hst) fun σ H Q ⟨ρ, G, Qp, Ep, R, w, hq, he⟩ => ?_
  refine ⟨ρ, G, _, Ep, R, w, fun s v ρ1 G1 H1 hs S1 R1 q1 => ?_, he⟩
  have hl : ρ1.length = σ.length := by simpa using R1.len
  have S1' : Step (FpE ρ σ H) (FpE ρ1 σ H1) G H G1 H1 := S1.weak fun b h => fpE_init hl h
  refine ⟨ρ1, G1, _, Ep, R1.init, q1, fun ss vs ρ2 G2 H2 hn hlen S2 R2 q2 => ?_, he.next S1'⟩
  have hl2 : ρ2.length = σ.length := by have := R2.len; simp at this; omega
  obtain ⟨R3, S3⟩ := R1.carryM hs hl2 R2 S2
  exact hq (s :: ss) (v :: vs) ρ2 G2 H2 (fun z hz => by rcases List.mem_cons.mp hz with hz | hz; rw [hz]; exact hs; exact hn z hz) (by simp [hlen]) (S1.trans S3) R3 q2
/-- all into their slots -/
theorem setN_go : ∀ {ns : List Nat} {ss : List Slot} {vs : List V} {ρ ρ' : Env} {σ : L2.St}, (∀ s ∈ ss, s ≠ .non) → ρ.length = σ.length → Rep T (ρ ++ ss) (σ ++ vs.map some) G H → setN ns ss ρ = some ρ' → ss.length = vs.length →
    ∃ σ', (ns.zip vs).foldl (fun z p => z.set p.1 (some p.2)) σ = σ' ∧ Rep T ρ' σ' G H ∧ (∀ b, FpE ρ' σ' H b → FpE (ρ ++ ss) (σ ++ vs.map some) H b)
  | [], [], [], ρ, ρ', σ, _, hl, R, h, _ => by
    unfold setN at h
    cases h
    refine ⟨σ, rfl, by simpa using R, fun b h => by simpa using h⟩
  | i :: ns, s :: ss, v :: vs, ρ, ρ', σ, hn, hl, R, h, hlen => by
    unfold setN at h
    split at h
    · rename_i hi
      obtain ⟨R2, f2⟩ := Rep.toSlotM (ss := ss) (vs := vs.map some) hl R hi (hn s (by simp))
      obtain ⟨σ', e, R3, f3⟩ := setN_go (ns := ns) (ss := ss) (vs := vs) (fun z hz => hn z (by simp [hz])) (by simp [hl]) R2 h (by simpa using hlen)
      exact ⟨σ', e, R3, fun b hb => f2 b (f3 b hb)⟩
    · cases h
  | [], _ :: _, _, _, _, _, _, _, _, h, _ => by unfold setN at h; cases h
  | _ :: _, [], _, _, _, _, _, _, _, h, _ => by unfold setN at h; cases h
  | [], [], _ :: _, _, _, _, _, _, _, _, h => by cases h
  | _ :: _, _ :: _, [], _, _, _, _, _, _, _, h => by cases h
theorem setN_len : ∀ {ns : List Nat} {ss : List Slot} {ρ ρ' : Env}, setN ns ss ρ = some ρ' → ns.length = ss.length
  | [], [], _, _, _ => rfl
  | [], _ :: _, _, _, h => by unfold setN at h; cases h
  | _ :: _, [], _, _, h => by unfold setN at h; cases h
  | _ :: ns, _ :: ss, _, _, h => by
    unfold setN at h
    split at h
    · simp [setN_len h]
    · cases h
theorem fold_ag : ∀ {ns : List Nat} {vs : List V} {σ : L2.St}, (∀ i ∈ ns, A i) → SAg A σ ((ns.zip vs).foldl (fun z p => z.set p.1 (some p.2)) σ)
  | [], _, σ, _ => by simpa using SAg.refl
  | _ :: _, [], σ, _ => by simpa using SAg.refl
  | i :: ns, v :: vs, σ, h => by
    have h1 : SAg A σ (σ.set i (some v)) := ⟨fun j hj => List.getElem?_set_ne (fun z => hj (by rw [← z]; exact h i (by simp))), by simp⟩
    exact h1.trans (fold_ag (ns := ns) (vs := vs) fun j hj => h j (by simp [hj]))
theorem ss_par {i j : Nat} {x y : Str} {a b : Expr} {irs : List IE} {px py pt pos : Pos} {kt k2 pt2} (hA : ∀ k ∈ [i, j], A k) (hc : X.calm = true) (hN : X.N.Nodup) (hi : X.N[i]? = some x) (hj : X.N[j]? = some y) (hij : i ≠ j)
    (hx : X.env.scope.names.lookup x = some .local) (hy : X.env.scope.names.lookup y = some .local) (ha : SPr X T W Γ [a, b] irs)
    (hw : swappedStores [.Tuple [.Name x px, .Name y py] kt pt] (.Tuple [a, b] k2 pt2) X.env = pure (some [x, y])) (hs : swapsWithSole [.Tuple [.Name x px, .Name y py] kt pt] (.Tuple [a, b] k2 pt2) pos.line X.env = pure false) :
    SS X T W A Γ (.Assign [.Tuple [.Name x px, .Name y py] kt pt] (.Tuple [a, b] k2 pt2) pos) (.par [i, j] irs) := by
  refine ps_weak (ps_par hc hN hi hj hij hx hy ha hw hs) fun Q σ H ⟨ρ, G, K, R, w, d⟩ => ?_
  refine ⟨ρ, G, _, K.ex, R, w, fun ss vs ρ1 G1 H1 hn hlen S1 R1 q1 => ?_, d.dx⟩
  have q2 : (match setN [i, j] ss ρ1 with | some ρ2 => K.nx ρ2 | none => False) := q1
  split at q2
  · rename_i ρ2 he
    have hl2 : ρ1.length = σ.length := by have := R1.len; simp at this; omega
    have h2 := setN_len he
    obtain ⟨σ', e, R2, f2⟩ := setN_go hn hl2 R1 he hlen
    match vs, hlen with
    | [v, u], _ => exact ⟨v, u, rfl, by
        have ag := fold_ag (A := A) (ns := [i, j]) (vs := [v, u]) (σ := σ) hA
        rw [e] at ag
        have e2 : (σ.set i (some v)).set j (some u) = σ' := e
        rw [e2]
        exact d.nx ρ2 σ' G1 H1 ag (S1.trans (Step.refl f2)) R2 q2⟩
    | [], h => simp at h; subst h; simp at h2
    | [_], h => simp at h h2; omega
    | _ :: _ :: _ :: _, h => simp at h h2; omega
  · exact q2.elim
theorem ss_par3 {i j l : Nat} {x y z : Str} {a b c : Expr} {irs : List IE} {px py pz pt pos : Pos} {kt k2 pt2} (hA : ∀ k ∈ [i, j, l], A k) (hc : X.calm = true) (hN : X.N.Nodup) (hi : X.N[i]? = some x) (hj : X.N[j]? = some y) (hl : X.N[l]? = some z) (hij : i ≠ j) (hil : i ≠ l) (hjl : j ≠ l)
    (hx : X.env.scope.names.lookup x = some .local) (hy : X.env.scope.names.lookup y = some .local) (hz : X.env.scope.names.lookup z = some .local) (ha : SPr X T W Γ [a, b, c] irs)
    (hw : swappedStores [.Tuple [.Name x px, .Name y py, .Name z pz] kt pt] (.Tuple [a, b, c] k2 pt2) X.env = pure (some [x, y, z])) (hs : swapsWithSole [.Tuple [.Name x px, .Name y py, .Name z pz] kt pt] (.Tuple [a, b, c] k2 pt2) pos.line X.env = pure false) :
    SS X T W A Γ (.Assign [.Tuple [.Name x px, .Name y py, .Name z pz] kt pt] (.Tuple [a, b, c] k2 pt2) pos) (.par [i, j, l] irs) := by
  refine ps_weak (ps_par3 hc hN hi hj hl hij hil hjl hx hy hz ha hw hs) fun Q σ H ⟨ρ, G, K, R, w, d⟩ => ?_
  refine ⟨ρ, G, _, K.ex, R, w, fun ss vs ρ1 G1 H1 hn hlen S1 R1 q1 => ?_, d.dx⟩
  have q2 : (match setN [i, j, l] ss ρ1 with | some ρ2 => K.nx ρ2 | none => False) := q1
  split at q2
  · rename_i ρ2 he
    have hl2 : ρ1.length = σ.length := by have := R1.len; simp at this; omega
    have h2 := setN_len he
    obtain ⟨σ', e, R2, f2⟩ := setN_go hn hl2 R1 he hlen
    match vs, hlen with
    | [v, u, t], _ => exact ⟨v, u, t, rfl, by
        have ag := fold_ag (A := A) (ns := [i, j, l]) (vs := [v, u, t]) (σ := σ) hA
        rw [e] at ag
        have e2 : ((σ.set i (some v)).set j (some u)).set l (some t) = σ' := e
        rw [e2]
        exact d.nx ρ2 σ' G1 H1 ag (S1.trans (Step.refl f2)) R2 q2⟩
    | [], h => simp at h; subst h; simp at h2
    | [_], h => simp at h h2; omega
    | [_, _], h => simp at h h2; omega
    | _ :: _ :: _ :: _ :: _, h => simp at h h2; omega
  · exact q2.elim
end
end Mi
namespace Mi
open PySem PySem.Spec PyProof.Rows L2
section
variable {X : Cx} {T : Tx} {W : WX} {Γ : Nat → FS} {A : Nat → Prop} {ρ ρ' : Env} {σ σ' : L2.St} {G G' H H' : Hp}
/-! ### methods of built-in types -/
/-- the receiver's type, as the model sees it -/
def TyIs (X : Cx) (t : String) (x : V) (H : Hp) : Prop := ∀ pins σ s v, Inv X pins σ H s → RelV x v → s.TypeIs v t ∧ ∀ a, v = .ref a → ∃ ob, s.heap.get? a = some ob ∧ ob.dict = none
/-- a method's rule, with its place in the tables -/
structure MRule (X : Cx) (name : Str) (t : String) (id : String) (r : V → List V → Hp → VK → Prop) : Prop where
  pa : PlainAttrs t
  slot : PySem.Slot t name id
  ty : typeOf (.builtin id) = pure (.type "method_descriptor")
  mt : MtR X id r
/-- what the text must show -/
structure MForm (X : Cx) (o : Expr) (name : Str) (apos : Pos) (es : List Expr) (cpos : Pos) : Prop where
  base : attributeBase o name X.env (eval o X.env) = eval o X.env
  few : ((backTo cpos (starEach es X.env)).all (fun x => !x.1) && (backToKw cpos (keywordEach [] X.env)).all (fun x => x.1.isSome)
    && decide (es.length + ([] : List Keyword).length + (if ([] : List Keyword).isEmpty then 0 else 1) < 30)) = true
  line : (apos.endLine == cpos.line) = true
  plain : (backTo cpos (starEach es X.env)).any (·.1) = false
  star : starEach es X.env = (false, eval (es.headD o) X.env) :: starEach es.tail X.env
theorem pe_ml {o e : Expr} {name : Str} {apos cpos : Pos} {es : List Expr} {to : TE} {t : TA} (hf : MForm X o name apos (e :: es) cpos) (ho : PE X o to) (ha : PA X (e :: es) t) :
    PE X (.Call (.Attribute o name apos) (e :: es) [] cpos) (fun σ H Q => to σ H fun x H1 => ∃ ty id r, MRule X name ty id r ∧ TyIs X ty x H1 ∧ t σ H1 fun xs H2 => r x xs H2 Q) := by
  refine ⟨fun pins s σ H Q I h => ?_⟩
  refine wpAny_Call_method_late hf.base hf.few hf.line rfl (thn (ho.run pins s σ H _ I h) fun v s1 ⟨x, H1, I1, r1, ty, id, r, mr, ti, q1⟩ => ?_)
  obtain ⟨h1, h2⟩ := ti pins σ s1 v I1 r1
  refine ⟨ty, id, mr.pa, mr.slot, mr.ty, h1, h2, ?_⟩
  have hA := ha.run cpos pins s1 σ H1 _ I1 q1
  have hp := hf.plain
  rw [hf.star] at hA hp ⊢
  refine Calls.callWith_builtin hp (Calls.evalArgs_plain ?_)
  exact thn hA fun us s2 ⟨vs, H2, I2, r2, q2⟩ => mr.mt pins s2 σ H2 x vs v us Q I2 r1 r2 q2
theorem pe_ml0 {o : Expr} {name : Str} {apos cpos : Pos} {to : TE} (base : attributeBase o name X.env (eval o X.env) = eval o X.env) (line : (apos.endLine == cpos.line) = true) (ho : PE X o to) :
    PE X (.Call (.Attribute o name apos) [] [] cpos) (fun σ H Q => to σ H fun x H1 => ∃ ty id r, MRule X name ty id r ∧ TyIs X ty x H1 ∧ r x [] H1 Q) := by
  refine ⟨fun pins s σ H Q I h => ?_⟩
  refine wpAny_Call_method0_late base line (thn (ho.run pins s σ H _ I h) fun v s1 ⟨x, H1, I1, r1, ty, id, r, mr, ti, q1⟩ => ?_)
  obtain ⟨h1, h2⟩ := ti pins σ s1 v I1 r1
  exact ⟨ty, id, mr.pa, mr.slot, mr.ty, h1, h2, Calls.callWith_builtin rfl (PySem.evalArgs_none (mr.mt pins s1 σ H1 x [] v [] Q I1 r1 .nil q1))⟩
theorem ty_dict {a : Addr} (h : IsD H a) : TyIs X "dict" (.ref a) H := fun pins σ s v I r => by
  obtain rfl : v = Value.ref a := r
  obtain ⟨t1, t2, _⟩ := isD_at I h
  exact ⟨t1, t2⟩
theorem ty_list {a : Addr} {xs : List V} (h : SqL X.K H a xs) : TyIs X "list" (.ref a) H := fun pins σ s v I r => tyV_is I r (.inl ⟨rfl, xs, h⟩)
theorem ty_tup {a : Addr} {xs : List V} {o : Obj} (h : H a = some (.frz o (.tup xs))) (hn : o.dict = none) : TyIs X "tuple" (.ref a) H := fun pins σ s v I r => by
  obtain rfl : v = Value.ref a := r
  obtain ⟨e, _, its, _, ob, h1, h2, _⟩ := (show ObjOk X.prog X.w H s.heap a (.frz o (.tup xs)) from I.hok a _ h)
  refine ⟨⟨ob, h1, h2⟩, fun b z => ?_⟩
  cases z
  exact ⟨o, e, hn⟩
theorem ty_str {x : Str} : TyIs X "str" (.str x) H := fun pins σ s v I r => tyV_is I r (by rfl)
def rDget : V → List V → Hp → VK → Prop := fun x xs H Q => ∃ a o, x = .ref a ∧ ((∃ y, xs = [y] ∧ DGet H a y o ∧ Q (o.getD .non) H) ∨ ∃ y z, xs = [y, z] ∧ DGet H a y o ∧ Q (o.getD z) H)
def rSjoin (K : PySem.W.Frag) : V → List V → Hp → VK → Prop := fun x xs H Q => ∃ a p, ∃ ys : List Str, x = .str a ∧ xs = [.ref p] ∧ (SqL K H p (ys.map V.str) ∨ SqT K H p (ys.map V.str)) ∧ (ys.map (·.length)).sum + ys.length * a.length ≤ 16777216 ∧ Q (.str (Txt.join a ys)) H
theorem mt_dget (hu : X.A.units + 1 < cLine) : MtR X "dict.get" rDget := by
  intro pins s σ H x xs v us Q I rx rs h
  obtain ⟨a, o, rfl, h⟩ := h
  obtain rfl : v = Value.ref a := rx
  rcases h with ⟨y, rfl, g, q⟩ | ⟨y, z, rfl, g, q⟩
  · obtain ⟨u, rfl, r1⟩ := Vals.one rs
    exact d_get1 hu I g r1 fun w' s3 I3 rw' => ⟨_, H, I3, rw', q⟩
  · obtain ⟨u, u2, rfl, r1, r2⟩ := Vals.two rs
    exact d_get2 hu I g r1 r2 fun w' s3 I3 rw' => ⟨_, H, I3, rw', q⟩
theorem m_get (hu : X.A.units + 65 < cLine) : MRule X "get" "dict" "dict.get" rDget := ⟨PySem.F.plainAttrs_dict, PySem.F.slot_dict_get, PySem.F.type_dict_get, mt_dget (by omega)⟩
theorem m_join : MRule X "join" "str" "str.join" (rSjoin X.K) := ⟨PySem.F.plainAttrs_str, PySem.F.slot_str_join, PySem.F.type_str_join, mt_join⟩
theorem m_index : MRule X "index" "list" "list.index" (rIndex X.K) := ⟨PySem.F.plainAttrs_list, PySem.F.slot_list_index, PySem.F.type_list_index, mt_index⟩
theorem m_indexT : MRule X "index" "tuple" "tuple.index" (fun x xs H Q => ∃ p, ∃ ys : List Str, ∃ z j, x = .ref p ∧ xs = [.str z] ∧ SqT X.K H p (ys.map V.str) ∧ ys[j]? = some z ∧ (∀ m, m < j → ys[m]? ≠ some z) ∧ Q (.int (j : Nat)) H) := ⟨PySem.F.plainAttrs_tuple, PySem.F.slot_tuple_index, PySem.F.type_tuple_index, mt_tup_index⟩
theorem flat_at' {d : D} {v : V} (h : Dp T G d v) (f : d.flat = true) : flatV v = true := by
  cases d with
  | non => cases h; rfl
  | bl b => cases h; rfl
  | int i => cases h; rfl
  | str x => cases h.1; rfl
  | _ => cases f
theorem eqv_at {d e : D} {v u : V} (h : Dp T G d v) (k : Dp T G e u) (f : d.flat = true) (g : e.flat = true) : eqV v u = D.eqv d e := by
  cases d with
  | non => cases h; cases e with
    | non => cases k; rfl
    | bl b => cases k; rfl
    | int i => cases k; rfl
    | str x => cases k.1; rfl
    | _ => cases g
  | bl b => cases h; cases e with
    | non => cases k; rfl
    | bl b => cases k; rfl
    | int i => cases k; rfl
    | str x => cases k.1; rfl
    | _ => cases g
  | int i => cases h; cases e with
    | non => cases k; rfl
    | bl b => cases k; rfl
    | int i => cases k; rfl
    | str x => cases k.1; rfl
    | _ => cases g
  | str x => cases h.1; cases e with
    | non => cases k; rfl
    | bl b => cases k; rfl
    | int i => cases k; rfl
    | str x => cases k.1; rfl
    | _ => cases g
  | _ => cases f
theorem flats_at : ∀ {ds : List D} {vs : List V}, Dps T G ds vs → ds.all D.flat = true → vs.all flatV = true ∧ True
  | [], _, h, _ => by cases h; exact ⟨rfl, trivial⟩
  | d :: ds, _, ⟨v, vr, h1, h2, h3⟩, f => by
    subst h1
    simp only [List.all_cons, Bool.and_eq_true] at f ⊢
    exact ⟨⟨flat_at' h2 f.1, (flats_at h3 f.2).1⟩, trivial⟩
theorem idx_at : ∀ {ds : List D} {vs : List V} {y : D} {v : V} {j : Nat}, Dps T G ds vs → ds.all D.flat = true → Dp T G y v → y.flat = true → idxG y ds = some j → ∃ z, vs[j]? = some z ∧ eqV z v = true ∧ ∀ (m : Nat) (z' : V), m < j → vs[m]? = some z' → eqV z' v = false
  | [], _, _, _, _, _, _, _, _, e => by cases e
  | d :: ds, _, y, v, j, ⟨w, vr, h1, h2, h3⟩, f, hy, fy, e => by
    subst h1
    simp only [List.all_cons, Bool.and_eq_true] at f
    unfold idxG at e
    have ev := eqv_at h2 hy f.1 fy
    split at e
    · rename_i q
      cases e
      exact ⟨w, rfl, by rw [ev, q], fun m z' hm => by omega⟩
    · rename_i q
      cases e2 : idxG y ds with
      | none => rw [e2] at e; cases e
      | some k =>
        rw [e2] at e
        cases e
        obtain ⟨z, hz, h5, h6⟩ := idx_at h3 f.2 hy fy e2
        refine ⟨z, hz, h5, fun m z' hm hz' => ?_⟩
        cases m with
        | zero => simp at hz'; subst hz'; rw [ev]; simpa using q
        | succ m => exact h6 m z' (Nat.lt_of_succ_lt_succ hm) (by simpa using hz')
def mName : Mth → Str
  | .get1 => "get" | .get2 => "get" | .index => "index" | .join => "join" | .values => "values" | .count => "count" | .split => "split"
theorem okS_join {sep : Str} (hs : okS sep = true) : ∀ {ss : List Str}, (∀ x ∈ ss, okS x = true) → okS (Str.join sep ss) = true
  | [], _ => by unfold Str.join; simp [okS, Str.empty]
  | [x], h => by unfold Str.join; exact h x (by simp)
  | x :: y :: r, h => by
    unfold Str.join
    exact okS_app (okS_app (h x (by simp)) hs) (okS_join hs fun z hz => h z (by simp [hz]))
theorem Dq.flat {d : D} {v : V} (h : Dq T G H d v) (hf : d.flat = true) : Dp T G d v := by
  rcases h with h | ⟨a, c, _, e, _⟩
  · exact h
  · subst e
    cases c <;> cases hf
theorem ddq_one {d : D} {vs : List V} (h : Dqs T G H [d] vs) : ∃ v, vs = [v] ∧ Dq T G H d v := Dqs.one h
/-- by values: what a method gives -/
theorem mth_rule (hK : X.K = T.K) (hu : X.A.units + 65 < cLine) (m : Mth) {d1 : D} {x : V} {H1 G1 : Hp} (sg : Same G1 H1) (hx : Dq T G1 H1 d1 x) (hr : rcvOk m d1.kind = true) :
    ∃ ty id r, MRule X (mName m) ty id r ∧ TyIs X ty x H1 ∧ ∀ (G2 H2 : Hp) (d2 : D) (ds : List D) (vs : List V) (Qp : Res → Prop) (Q : VK), Same G2 H2 → Dq T G2 H2 d2 x → d2.kind = d1.kind → Dqs T G2 H2 ds vs → mthW m d2 ds Qp →
      (∀ r z G3 H3, VR T G2 H2 r z G3 H3 → Qp r → Q z H3) → r x vs H2 Q := by
  have getK : ∀ {d1 : D}, d1.kind = 3 → Dq T G1 H1 d1 x → ∃ a, x = .ref a ∧ IsD H1 a := fun {d1} hk hx => by
    cases d1 with
    | dK kvs => obtain ⟨a, vs, rfl, h1, h2⟩ := hx.dK sg; exact ⟨a, rfl, .inl ⟨vs, h1⟩⟩
    | dT kvs => obtain ⟨a, vs, rfl, h1, h2⟩ := hx.dT sg; exact ⟨a, rfl, .inr ⟨vs, h1⟩⟩
    | _ => cases hk
  have go : ∀ {z : D} {o : Option V} {od : Option D} {dz : V} {G2 H2 : Hp}, (∀ w, od = some w → ∃ v, o = some v ∧ Dp T G2 w v) → (od = none → o = none) → Dq T G2 H2 z dz → (od = none → True) → Dq T G2 H2 (od.getD z) (o.getD dz) := fun {z o od dz G2 H2} h1 h2 h3 _ => by
    cases od with
    | none => rw [h2 rfl]; exact h3
    | some w => obtain ⟨v, e, dv⟩ := h1 w rfl; rw [e]; exact .inl dv
  cases m with
  | get1 =>
    obtain ⟨a, rfl, hd⟩ := getK (by simpa [rcvOk] using hr) hx
    have hk3 : d1.kind = 3 := by simpa [rcvOk] using hr
    refine ⟨_, _, _, m_get hu, ty_dict hd, fun G2 H2 d2 ds vs Qp Q sg2 hx2 hk hds hw hq => ?_⟩
    rw [hk3] at hk
    cases d2 with
    | dK kvs =>
      match ds, hds, hw with
      | [k], hds, hw =>
        have hw2 : (match keyOf k with | some q => Qp (.val ((Mi.valG kvs q).getD .non)) | none => False) := hw
        obtain ⟨v, rfl, hk1⟩ := Dqs.one hds
        split at hw2
        · rename_i q ek
          obtain ⟨b, o, e1, g1, _, _, g3, g4⟩ := dget_K sg2 hx2 hk1 ek
          cases e1
          refine ⟨a, o, rfl, .inl ⟨v, rfl, g1, ?_⟩⟩
          skip
          cases ev : Mi.valG kvs q with
          | none =>
            rw [ev] at hw2
            rw [g4 ev]
            exact hq _ _ G2 H2 (VR.non sg2) hw2
          | some w =>
            rw [ev] at hw2
            obtain ⟨u, rfl, du⟩ := g3 w ev
            exact hq _ _ G2 H2 (VR.flat sg2 du) hw2
        · exact hw2.elim
      | [], _, hw => exact hw.elim
      | _ :: _ :: _, _, hw => exact hw.elim
    | dT kvs =>
      match ds, hds, hw with
      | [.tup ks], hds, hw =>
        have hw2 : (match tkey ks with | some q => Qp (.val ((Mi.valG kvs q).getD .non)) | none => False) := hw
        obtain ⟨v, rfl, hk1⟩ := Dqs.one hds
        split at hw2
        · rename_i q ek
          obtain ⟨b, o, e1, g1, _, _, g3, g4⟩ := dget_T sg2 hx2 hk1 ek
          cases e1
          refine ⟨a, o, rfl, .inl ⟨v, rfl, g1, ?_⟩⟩
          skip
          cases ev : Mi.valG kvs q with
          | none =>
            rw [ev] at hw2
            rw [g4 ev]
            exact hq _ _ G2 H2 (VR.non sg2) hw2
          | some w =>
            rw [ev] at hw2
            obtain ⟨u, rfl, du⟩ := g3 w ev
            exact hq _ _ G2 H2 (VR.flat sg2 du) hw2
        · exact hw2.elim
      | [], _, hw => exact hw.elim
      | [.bot], _, hw => exact hw.elim
      | [.non], _, hw => exact hw.elim
      | [.bl _], _, hw => exact hw.elim
      | [.int _], _, hw => exact hw.elim
      | [.str _], _, hw => exact hw.elim
      | [.lst _], _, hw => exact hw.elim
      | [.dK _], _, hw => exact hw.elim
      | [.dT _], _, hw => exact hw.elim
      | [.obj _ _], _, hw => exact hw.elim
      | [.exc _ _], _, hw => exact hw.elim
      | d :: _ :: _, _, hw => cases d <;> exact hw.elim
    | _ => cases hk
  | get2 =>
    obtain ⟨a, rfl, hd⟩ := getK (by simpa [rcvOk] using hr) hx
    have hk3 : d1.kind = 3 := by simpa [rcvOk] using hr
    refine ⟨_, _, _, m_get hu, ty_dict hd, fun G2 H2 d2 ds vs Qp Q sg2 hx2 hk hds hw hq => ?_⟩
    rw [hk3] at hk
    cases d2 with
    | dK kvs =>
      match ds, hds, hw with
      | [k, z], hds, hw =>
        have hw2 : (match keyOf k with | some q => z.flat = true ∧ Qp (.val ((Mi.valG kvs q).getD z)) | none => False) := hw
        obtain ⟨v, v2, rfl, hk1, hk2⟩ := Dqs.two hds
        split at hw2
        · rename_i q ek
          obtain ⟨b, o, e1, g1, _, _, g3, g4⟩ := dget_K sg2 hx2 hk1 ek
          cases e1
          refine ⟨a, o, rfl, .inr ⟨v, v2, rfl, g1, ?_⟩⟩
          obtain ⟨hz, hw2⟩ := hw2
          cases ev : Mi.valG kvs q with
          | none =>
            rw [ev] at hw2
            rw [g4 ev]
            exact hq _ _ G2 H2 (VR.flat sg2 (hk2.flat hz)) hw2
          | some w =>
            rw [ev] at hw2
            obtain ⟨u, rfl, du⟩ := g3 w ev
            exact hq _ _ G2 H2 (VR.flat sg2 du) hw2
        · exact hw2.elim
      | [], _, hw => exact hw.elim
      | [_], _, hw => exact hw.elim
      | _ :: _ :: _ :: _, _, hw => exact hw.elim
    | dT kvs =>
      match ds, hds, hw with
      | [.tup ks, z], hds, hw =>
        have hw2 : (match tkey ks with | some q => z.flat = true ∧ Qp (.val ((Mi.valG kvs q).getD z)) | none => False) := hw
        obtain ⟨v, v2, rfl, hk1, hk2⟩ := Dqs.two hds
        split at hw2
        · rename_i q ek
          obtain ⟨b, o, e1, g1, _, _, g3, g4⟩ := dget_T sg2 hx2 hk1 ek
          cases e1
          refine ⟨a, o, rfl, .inr ⟨v, v2, rfl, g1, ?_⟩⟩
          obtain ⟨hz, hw2⟩ := hw2
          cases ev : Mi.valG kvs q with
          | none =>
            rw [ev] at hw2
            rw [g4 ev]
            exact hq _ _ G2 H2 (VR.flat sg2 (hk2.flat hz)) hw2
          | some w =>
            rw [ev] at hw2
            obtain ⟨u, rfl, du⟩ := g3 w ev
            exact hq _ _ G2 H2 (VR.flat sg2 du) hw2
        · exact hw2.elim
      | [], _, hw => exact hw.elim
      | [d], _, hw => cases d <;> exact hw.elim
      | [.bot, _], _, hw => exact hw.elim
      | [.non, _], _, hw => exact hw.elim
      | [.bl _, _], _, hw => exact hw.elim
      | [.int _, _], _, hw => exact hw.elim
      | [.str _, _], _, hw => exact hw.elim
      | [.lst _, _], _, hw => exact hw.elim
      | [.dK _, _], _, hw => exact hw.elim
      | [.dT _, _], _, hw => exact hw.elim
      | [.obj _ _, _], _, hw => exact hw.elim
      | [.exc _ _, _], _, hw => exact hw.elim
      | d :: _ :: _ :: _, _, hw => cases d <;> exact hw.elim
    | _ => cases hk
  | join =>
    have hs : ∃ sep, d1 = .str sep := by
      cases d1 with
      | str sep => exact ⟨sep, rfl⟩
      | _ => cases hr
    obtain ⟨sep, rfl⟩ := hs
    cases hx.str
    refine ⟨_, _, _, m_join, ty_str, fun G2 H2 d2 ds vs Qp Q sg2 hx2 hk hds hw hq => ?_⟩
    cases d2 with
    | str sep2 =>
      match ds, hds, hw with
      | [.lst ds], hds, hw =>
        have hw2 : (match strsOf ds with | some ss => (ss.map (·.length)).sum + ss.length * sep2.length ≤ big ∧ Qp (.val (.str (Str.join sep2 ss))) | none => False) := hw
        obtain ⟨v, rfl, hk1⟩ := Dqs.one hds
        obtain ⟨e2, ok2⟩ := hx2.str'
        cases e2
        split at hw2
        · rename_i ss es
          obtain ⟨p, vs, rfl, h1, h2⟩ := hk1.lst sg2
          obtain ⟨rfl, oks⟩ := strs_at h2 es
          refine ⟨sep, p, ss, rfl, rfl, .inl (by rw [hK]; exact h1), hw2.1, ?_⟩
          rw [TL.join_eq]
          exact hq _ _ G2 H2 (VR.str sg2 (okS_join ok2 oks)) hw2.2
        · exact hw2.elim
      | [], _, hw => exact hw.elim
      | [.bot], _, hw => exact hw.elim
      | [.non], _, hw => exact hw.elim
      | [.bl _], _, hw => exact hw.elim
      | [.int _], _, hw => exact hw.elim
      | [.str _], _, hw => exact hw.elim
      | [.tup _], _, hw => exact hw.elim
      | [.dK _], _, hw => exact hw.elim
      | [.dT _], _, hw => exact hw.elim
      | [.obj _ _], _, hw => exact hw.elim
      | [.exc _ _], _, hw => exact hw.elim
      | d :: _ :: _, _, hw => cases d <;> exact hw.elim
    | _ => cases hk
  | index =>
    have hs : (∃ xs, d1 = .lst xs) ∨ ∃ xs, d1 = .ftp xs := by
      cases d1 with
      | lst xs => exact .inl ⟨xs, rfl⟩
      | ftp xs => exact .inr ⟨xs, rfl⟩
      | _ => cases hr
    rcases hs with ⟨xs, rfl⟩ | ⟨xs, rfl⟩
    · obtain ⟨a, us, rfl, h1, _⟩ := hx.lst sg
      refine ⟨_, _, _, m_index, ty_list (by rw [hK]; exact h1), fun G2 H2 d2 ds vs Qp Q sg2 hx2 hk hds hw hq => ?_⟩
      cases d2 with
      | lst ys =>
        match ds, hds, hw with
        | [y], hds, hw =>
          have hw2 : (y.flat = true ∧ ys.all D.flat = true) ∧ (match idxG y ys with | some j => Qp (.val (.int j)) | none => False) := hw
          obtain ⟨v, rfl, hk1⟩ := Dqs.one hds
          obtain ⟨⟨f1, f2⟩, hw2⟩ := hw2
          split at hw2
          · rename_i j ej
            obtain ⟨b, ws, e1, h2, h3⟩ := hx2.lst sg2
            cases e1
            obtain ⟨z, hz, hzj, hno⟩ := idx_at h3 f2 (hk1.flat f1) f1 ej
            obtain ⟨g1, g2⟩ := flats_at h3 f2
            exact ⟨a, ws, v, j, z, rfl, rfl, by rw [hK]; exact h2, flat_at' (hk1.flat f1) f1, g1, hz, hzj, hno, hq _ _ G2 H2 (VR.int sg2) hw2⟩
          · exact hw2.elim
        | [], _, hw => exact hw.elim
        | _ :: _ :: _, _, hw => exact hw.elim
      | _ => cases hk
    · obtain ⟨a, us, rfl, h1, _, o, h0, hno⟩ := hx.ftp sg
      refine ⟨_, _, _, m_indexT, ty_tup (sg _ _ h0) hno, fun G2 H2 d2 ds vs Qp Q sg2 hx2 hk hds hw hq => ?_⟩
      cases d2 with
      | ftp ys =>
        match ds, hds, hw with
        | [.str z], hds, hw =>
          have hw2 : (match strsOf ys with | some ss => (match ss.findIdx? (fun s => decide (s = z)) with | some j => Qp (.val (.int j)) | none => False) | none => False) := hw
          obtain ⟨v, rfl, hk1⟩ := Dqs.one hds
          cases hk1.str
          split at hw2
          · rename_i ss es
            split at hw2
            · rename_i j ej
              obtain ⟨b, ws, e1, h2, h3, _⟩ := hx2.ftp sg2
              cases e1
              have hv := (strs_at h3 es).1
              subst hv
              obtain ⟨hj, e1, e2⟩ := List.findIdx?_eq_some_iff_getElem.mp ej
              refine ⟨a, ss, z, j, rfl, rfl, by rw [hK]; exact h2, ?_, fun m hm e => ?_, hq _ _ G2 H2 (VR.int sg2) hw2⟩
              · rw [List.getElem?_eq_getElem hj]
                simpa using e1
              · have hm2 : m < ss.length := by omega
                rw [List.getElem?_eq_getElem hm2] at e
                have := e2 m hm
                simp at this e
                exact this e
            · exact hw2.elim
          · exact hw2.elim
        | [], _, hw => exact hw.elim
        | y :: _ :: _, _, hw => cases y <;> exact hw.elim
        | [.bot], _, hw => exact hw.elim
        | [.non], _, hw => exact hw.elim
        | [.bl _], _, hw => exact hw.elim
        | [.int _], _, hw => exact hw.elim
        | [.tup _], _, hw => exact hw.elim
        | [.lst _], _, hw => exact hw.elim
        | [.ftp _], _, hw => exact hw.elim
        | [.dK _], _, hw => exact hw.elim
        | [.dT _], _, hw => exact hw.elim
        | [.obj _ _], _, hw => exact hw.elim
        | [.exc _ _], _, hw => exact hw.elim
      | _ => cases hk
  | values => cases hr
  | count => cases hr
  | split => cases hr
theorem se_mth {o e : Expr} {m : Mth} {apos cpos : Pos} {es : List Expr} {io : IE} {irs : List IE} (hK : X.K = T.K) (hu : X.A.units + 65 < cLine) (hf : MForm X o (mName m) apos (e :: es) cpos) (ho : SE X T W Γ o io) (ha : SA X T W Γ (e :: es) irs) :
    SE X T W Γ (.Call (.Attribute o (mName m) apos) (e :: es) [] cpos) (.mth m io irs) := by
  refine pe_weak (pe_ml hf (pe_opd ho) ha) fun σ H Q ⟨ρ, G, Qp, Ep, R, w, hq, he⟩ => ?_
  refine ⟨ρ, G, _, Ep, R, w, fun x v ρ1 G1 H1 S1 R1 o1 q1 => ?_, he⟩
  obtain ⟨rk, q1⟩ := q1
  obtain ⟨ty, id, r, mr, ti, k⟩ := mth_rule hK hu m R1.sub (opd_dq R1 o1) rk
  refine ⟨ty, id, r, mr, ti, ρ1, G1, _, Ep, R1, q1, fun rs vs ρ2 G2 H2 S2 R2 o2 q2 => ?_, he.next S1⟩
  refine k G2 H2 _ _ vs _ _ R2.sub (opd_dq R2 (o1.mono S2.gs)) q2.1 (opds_dq R2 o2) q2.2 fun r z G3 H3 vr q3 => ?_
  obtain ⟨R3, S3⟩ := R2.vr vr
  exact hq r z ρ2 G3 H3 ((S1.trans S2).trans S3) R3 q3
/-! ### lists that change -/
def muName : Mu → Str
  | .append => "append" | .insert => "insert" | .clear => "clear" | .reverse => "reverse" | .pop => "pop"
def rInsert : V → List V → Hp → VK → Prop := fun x vs H Q => ∃ (l : Addr) (xs : List V) (i : Int) (y : V), x = .ref l ∧ vs = [.int i, y] ∧ H l = some (.lst xs) ∧ xs.length < sizeLine ∧ 0 ≤ i ∧ i < 2 ^ 63 ∧
    Q .non (upd H l (.lst (xs.take i.toNat ++ [y] ++ xs.drop i.toNat)))
theorem u_append : MRule X "append" "list" "list.append" rAppend := ⟨PySem.F.plainAttrs_list, PySem.F.slot_list_append, PySem.F.type_list_append, mt_append⟩
theorem u_insert : MRule X "insert" "list" "list.insert" rInsert := ⟨PySem.F.plainAttrs_list, PySem.F.slot_list_insert, PySem.F.type_list_insert, mt_insert⟩
theorem u_pop : MRule X "pop" "list" "list.pop" rPopAt := ⟨PySem.F.plainAttrs_list, PySem.F.slot_list_pop, PySem.F.type_list_pop, mt_popAt⟩
theorem u_clear : MRule X "clear" "list" "list.clear" rClear := ⟨PySem.F.plainAttrs_list, PySem.F.slot_list_clear, PySem.F.type_list_clear, mt_clear⟩
theorem u_reverse : MRule X "reverse" "list" "list.reverse" rReverse := ⟨PySem.F.plainAttrs_list, PySem.F.slot_list_reverse, PySem.F.type_list_reverse, mt_reverse⟩
theorem Dps.erase : ∀ {ds : List D} {vs : List V} (n : Nat), Dps T G ds vs → Dps T G (ds.eraseIdx n) (vs.eraseIdx n)
  | [], _, _, h => by cases h; exact rfl
  | d :: ds, _, 0, ⟨v, vr, h1, h2, h3⟩ => by subst h1; exact h3
  | d :: ds, _, n + 1, ⟨v, vr, h1, h2, h3⟩ => by subst h1; exact ⟨v, vr.eraseIdx n, rfl, h2, Dps.erase n h3⟩
theorem ixG_seq {n : Nat} {i : Int} {j : Nat} (h : ixG n i = some j) : seqIndex? i n = some j ∧ j < n := by
  unfold ixG at h
  have hd : seqIndex? i n = (if (decide (0 ≤ (if i < 0 then i + n else i)) && decide ((if i < 0 then i + n else i) < n)) = true then some (if i < 0 then i + n else i).toNat else none) := rfl
  rw [hd]
  split at h
  · rename_i h0
    split at h
    · rename_i h1
      cases h
      refine ⟨?_, by omega⟩
      rw [if_neg (by omega : ¬ i < 0), if_pos (by simp; omega)]
    · cases h
  · rename_i h0
    split at h
    · rename_i h1
      cases h
      refine ⟨?_, by omega⟩
      rw [if_pos (by omega : i < 0), if_pos (by simp; omega)]
    · cases h
/-- by values: what a change gives -/
theorem mu_rule (m : Mu) {a : Addr} {H1 : Hp} {us : List V} (h1 : H1 a = some (.lst us)) :
    ∃ ty id r, MRule X (muName m) ty id r ∧ TyIs X ty (.ref a) H1 ∧ ∀ (G2 H2 : Hp) (ys ds : List D) (ws vs : List V) (Qp : D → List D → Prop) (Q : VK), Same G2 H2 → H2 a = some (.lst ws) → ws.length ≤ sizeLine → Dps T G2 ys ws → Dps T G2 ds vs → muW m ys ds Qp →
      (∀ z v zs ts, Dp T G2 z v → Dps T G2 zs ts → Qp z zs → Q v (upd H2 a (.lst ts))) → r (.ref a) vs H2 Q := by
  have ti : TyIs X "list" (.ref a) H1 := ty_list (SqL.of h1)
  have hb : (big : Nat) = sizeLine := big_eq
  have hsz : sizeLine = 16777216 := sizeLine_eq
  cases m with
  | append =>
    refine ⟨_, _, _, u_append, ti, fun G2 H2 ys ds ws vs Qp Q sg h2 hz hy hd hw hq => ?_⟩
    match ds, hd, hw with
    | [x], hd, hw =>
      obtain ⟨v, vr, rfl, dv, rfl⟩ := hd
      exact ⟨a, ws, v, rfl, rfl, h2, by rw [hy.len, ← hb]; exact hw.1, hq .non _ _ _ rfl (hy.append (Dps.one dv)) hw.2⟩
    | [], _, hw => exact hw.elim
    | _ :: _ :: _, _, hw => exact hw.elim
  | insert =>
    refine ⟨_, _, _, u_insert, ti, fun G2 H2 ys ds ws vs Qp Q sg h2 hz hy hd hw hq => ?_⟩
    match ds, hd, hw with
    | [.int i, x], hd, hw =>
      obtain ⟨u, ur, rfl, du, v, vr, rfl, dv, rfl⟩ := hd
      cases du
      obtain ⟨⟨p1, p2, p3⟩, q⟩ := hw
      exact ⟨a, ws, i, v, rfl, rfl, h2, by rw [hy.len]; omega, p2, by rw [hb] at p1; omega, hq .non _ _ _ rfl (((hy.take i.toNat).append (Dps.one dv)).append (hy.drop i.toNat)) q⟩
    | [], _, hw => exact hw.elim
    | [d], _, hw => cases d <;> exact hw.elim
    | d :: _ :: _ :: _, _, hw => cases d <;> exact hw.elim
    | [.bot, _], _, hw => exact hw.elim
    | [.non, _], _, hw => exact hw.elim
    | [.bl _, _], _, hw => exact hw.elim
    | [.str _, _], _, hw => exact hw.elim
    | [.tup _, _], _, hw => exact hw.elim
    | [.lst _, _], _, hw => exact hw.elim
    | [.dK _, _], _, hw => exact hw.elim
    | [.dT _, _], _, hw => exact hw.elim
    | [.obj _ _, _], _, hw => exact hw.elim
    | [.exc _ _, _], _, hw => exact hw.elim
  | clear =>
    refine ⟨_, _, _, u_clear, ti, fun G2 H2 ys ds ws vs Qp Q sg h2 hz hy hd hw hq => ?_⟩
    match ds, hd, hw with
    | [], hd, hw =>
      cases hd
      exact ⟨a, ws, rfl, rfl, h2, hq .non _ [] _ rfl rfl hw⟩
    | _ :: _, _, hw => exact hw.elim
  | reverse =>
    refine ⟨_, _, _, u_reverse, ti, fun G2 H2 ys ds ws vs Qp Q sg h2 hz hy hd hw hq => ?_⟩
    match ds, hd, hw with
    | [], hd, hw =>
      cases hd
      exact ⟨a, ws, rfl, rfl, h2, hq .non _ _ _ rfl hy.reverse hw⟩
    | _ :: _, _, hw => exact hw.elim
  | pop =>
    refine ⟨_, _, _, u_pop, ti, fun G2 H2 ys ds ws vs Qp Q sg h2 hz hy hd hw hq => ?_⟩
    match ds, hd, hw with
    | [.int i], hd, hw =>
      obtain ⟨u, ur, rfl, du, rfl⟩ := hd
      cases du
      have hw2 : (match ixG ys.length i with | some j => (match ys[j]? with | some y => Qp y (ys.eraseIdx j) | none => False) | none => False) := hw
      split at hw2
      · rename_i j ej
        split at hw2
        · rename_i y ey
          obtain ⟨v, ev, dv⟩ := hy.get ey
          obtain ⟨e1, e2⟩ := ixG_seq ej
          have hz2 : ys.length ≤ sizeLine := by rw [← hy.len]; exact hz
          unfold ixG at ej
          refine ⟨a, ws, i, j, v, rfl, rfl, h2, ?_, ?_, by rw [hy.len]; exact e1, ev, hq _ _ _ _ dv (hy.erase j) hw2⟩
          · split at ej
            · omega
            · split at ej
              · omega
              · cases ej
          · split at ej
            · split at ej
              · omega
              · cases ej
            · omega
        · exact hw2.elim
      · exact hw2.elim
    | [], _, hw => exact hw.elim
    | d :: _ :: _, _, hw => cases d <;> exact hw.elim
    | [.bot], _, hw => exact hw.elim
    | [.non], _, hw => exact hw.elim
    | [.bl _], _, hw => exact hw.elim
    | [.str _], _, hw => exact hw.elim
    | [.tup _], _, hw => exact hw.elim
    | [.lst _], _, hw => exact hw.elim
    | [.dK _], _, hw => exact hw.elim
    | [.dT _], _, hw => exact hw.elim
    | [.obj _ _], _, hw => exact hw.elim
    | [.exc _ _], _, hw => exact hw.elim
theorem mut_go (m : Mu) {i : Nat} {irs : List IE} {Q : VK} (h : dG T W (wp Γ (.mut m i irs)) σ H Q) (hK : X.K = T.K) :
    ∃ v, σ[i]? = some (some v) ∧ ∃ ty id r, MRule X (muName m) ty id r ∧ TyIs X ty v H ∧ dA T W (wpL Γ irs) σ H fun xs H2 => (∀ a ys, SqL X.K H2 a ys → ys.length ≤ sizeLine) → r v xs H2 Q := by
  obtain ⟨ρ, G, Qp, Ep, R, w, hq, he⟩ := h
  have w2 : (match ρ[i]? with
    | some (.own (.lst _)) => wpL Γ irs ρ (fun rs ρ1 => rs.all Res.isVal = true ∧ (match ρ1[i]? with
      | some (.own (.lst ys)) => muW m ys (rs.map (rdR ρ1)) (fun z zs => Qp (.val z) (ρ1.set i (.own (.lst zs))))
      | _ => False)) Ep
    | _ => False) := w
  split at w2
  · rename_i ys0 e0
    obtain ⟨a, h1, us, h2, h3⟩ := R.own i _ e0
    obtain ⟨ty, id, r, mr, ti, k⟩ := mu_rule (X := X) (T := T) m h2
    refine ⟨.ref a, h1, ty, id, r, mr, ti, ρ, G, _, Ep, R, w2, fun rs vs ρ1 G1 H1 S1 R1 o1 q1 hsz => ?_, he⟩
    obtain ⟨av, q2⟩ := q1
    split at q2
    · rename_i ys e1
      obtain ⟨a2, h4, ws, h5, h6⟩ := R1.own i _ e1
      rw [h1] at h4
      cases h4
      refine k G1 H1 ys _ ws vs _ Q R1.sub h5 (hsz a ws (SqL.of h5)) h6 (vals_dps (ρ := ρ1) av o1) q2 fun z v zs ts dz dzs q3 => ?_
      obtain ⟨R2, S2⟩ := R1.put (o := .lst ts) e1 h1 rfl (c1 := .lst zs) rfl ⟨ts, upd_same, dzs⟩
      exact hq (.val z) v _ G1 _ (S1.trans S2) ⟨R2, dz⟩ q3
    · exact q2.elim
  · exact w2.elim
theorem se_mut {e : Expr} {m : Mu} {i : Nat} {x : Str} {p apos cpos : Pos} {es : List Expr} {irs : List IE} (hK : X.K = T.K) (hN : X.N[i]? = some x) (hv : Vis X.env.scope x) (hd : (x == ("__debug__" : Str)) = false) (hcd : (x == ("__classdict__" : Str)) = false) (hf : MForm X (.Name x p) (muName m) apos (e :: es) cpos) (ha : SA X T W Γ (e :: es) irs) :
    SE X T W Γ (.Call (.Attribute (.Name x p) (muName m) apos) (e :: es) [] cpos) (.mut m i irs) := by
  refine pe_weak (pe_ml hf (pe_var hN hv hd hcd) (pa_sizes ha)) fun σ H Q h => ?_
  obtain ⟨v, hv, ty, id, r, mr, ti, k⟩ := mut_go m h hK
  refine ⟨v, hv, ty, id, r, mr, ti, ?_⟩
  obtain ⟨ρ, G, Qp, Ep, R, w, hq, he⟩ := k
  exact ⟨ρ, G, Qp, Ep, R, w, fun rs vs ρ1 G1 H1 S1 R1 o1 q1 z1 z2 => hq rs vs ρ1 G1 H1 S1 R1 o1 q1 z1, he⟩
theorem se_mut0 {m : Mu} {i : Nat} {x : Str} {p apos cpos : Pos} (hK : X.K = T.K) (hN : X.N[i]? = some x) (hv : Vis X.env.scope x) (hd : (x == ("__debug__" : Str)) = false) (hcd : (x == ("__classdict__" : Str)) = false) (base : attributeBase (.Name x p) (muName m) X.env (eval (.Name x p) X.env) = eval (.Name x p) X.env) (line : (apos.endLine == cpos.line) = true) :
    SE X T W Γ (.Call (.Attribute (.Name x p) (muName m) apos) [] [] cpos) (.mut m i []) := by
  refine pe_weak (pe_ml0 base line (pe_sizes (pe_var hN hv hd hcd))) fun σ H Q h => ?_
  obtain ⟨v, hv, ty, id, r, mr, ti, k⟩ := mut_go m h hK
  refine ⟨v, hv, fun z1 _ _ _ => ⟨ty, id, r, mr, ti, ?_⟩⟩
  obtain ⟨ρ, G, Qp, Ep, R, w, hq, he⟩ := k
  exact hq [] [] ρ G H (Step.refl fun _ h => h) R .nil w z1
end
end Mi
/-! Dict comprehensions of one clause and of two, keys of any of the two kinds. -/
namespace Mi
open PySem PySem.Spec PyProof.Rows L2
/-- one turn of a clause: the item, its store, its tests -/
def Turn (M : Model) (A : Around) (env : PySem.Env) (R : Result → Shared → Prop) (tg : Expr) (it : Value) (ifs : List Expr) (B C : Shared → Prop) (s : Shared) : Prop :=
  wpAny M A (pyNext it) (fun r s1 => match r with
    | none => R (.ok .next) s1
    | some v => wpAny M A (letOwnedTupleGo tg it v) (fun _ s2 => wpAny M A (assign tg env v) (fun _ s3 =>
        wpAny M A (forIn ifs true fun c r => if r = true then do let ok ← isTrue c env (eval c env); pure (ForInStep.yield ok) else pure (ForInStep.yield r)) (fun ok s4 => if ok = true then B s4 else C s4)
          (notedBy M A env fun e s' => R (.error e) s') s3) (notedBy M A env fun e s' => R (.error e) s') s2) (notedBy M A env fun e s' => R (.error e) s') s1) (notedBy M A env fun e s' => R (.error e) s') s
/-- key, value, store; no exception -/
def PutB (M : Model) (A : Around) (env : PySem.Env) (kx vx : Expr) (D : Addr) (E : Value → Shared → Prop) (Post : Shared → Prop) (s : Shared) : Prop :=
  wpAny M A (eval kx env) (fun kv s1 => wpAny M A (eval vx env) (fun vv s2 => wpAny M A (dictSet D kv vv) (fun _ s3 => Post s3) E s2) E s1) E s
section
variable {prog : Program} {w : World} {A : Around} {R : Result → Shared → Prop} {s : Shared} {kx vx t0 i0 t1 i1 : Expr} {ifs0 ifs1 : List Expr} {scope : Scope} {pos : Pos} {it : Value} {D : Addr} {env : PySem.Env}
theorem dl_one (J : Nat → Shared → Prop)
    (turn : ∀ n s, J n s → Turn (model prog w) A env R t0 it ifs0 (PutB (model prog w) A env kx vx D (notedBy (model prog w) A env fun e s' => R (.error e) s') fun s' => ∃ m, m < n ∧ J m s') (fun s' => ∃ m, m < n ∧ J m s') s) (n : Nat) (h : J n s) :
    codeAny (model prog w) A (.compLoop (.DictComp kx vx [⟨t0, i0, ifs0, 0⟩] scope pos) 0 it (.ref D) env) R s := compLoop_anyD J turn n h
theorem dturn_out (acc : Value) : compTurn (.DictComp kx vx [⟨t0, i0, ifs0, 0⟩, ⟨t1, i1, ifs1, 0⟩] scope pos) 0 it acc env = (do
    standAt i0.pos
    match ← pyNext it with
    | none => pure (.done .next)
    | some v =>
      letOwnedTupleGo t0 it v
      assign t0 env v
      let mut ok := true
      for c in ifs0 do
        if ok then ok ← isTrue c env (eval c env)
      if ok then
        let x ← eval i1 env
        standAt i1.pos
        let x ← foldedSetIterable i1 env x
        let _ ← runOwn (.compStart (.DictComp kx vx [⟨t0, i0, ifs0, 0⟩, ⟨t1, i1, ifs1, 0⟩] scope pos) 1 (← holding [x] (pyIter x)) acc env) env
      again (.compLoop (.DictComp kx vx [⟨t0, i0, ifs0, 0⟩, ⟨t1, i1, ifs1, 0⟩] scope pos) 0 it acc env)) := by rfl
theorem dturn_in : compTurn (.DictComp kx vx [⟨t0, i0, ifs0, 0⟩, ⟨t1, i1, ifs1, 0⟩] scope pos) 1 it (.ref D) env = (do
    standAt i1.pos
    match ← pyNext it with
    | none => pure (.done .next)
    | some v =>
      letOwnedTupleGo t1 it v
      assign t1 env v
      let mut ok := true
      for c in ifs1 do
        if ok then ok ← isTrue c env (eval c env)
      if ok then
        (do
          let kv ← eval kx env
          let vv ← holding [kv] (eval vx env)
          standAt { kx.pos with endLine := vx.pos.endLine, endCol := vx.pos.endCol }
          holding [kv, vv] (dictSet D kv vv))
      again (.compLoop (.DictComp kx vx [⟨t0, i0, ifs0, 0⟩, ⟨t1, i1, ifs1, 0⟩] scope pos) 1 it (.ref D) env)) := by rfl
/-- the second source, its loop -/
def InnB (M : Model) (A : Around) (env : PySem.Env) (cx i1 : Expr) (acc : Value) (E : Value → Shared → Prop) (Post : Shared → Prop) (s : Shared) : Prop :=
  wpAny M A (eval i1 env) (fun x s1 => wpAny M A (pyIter x) (fun it1 s2 => codeAny M A (.compStart cx 1 it1 acc env) (fun r s' => match r with
    | .ok _ => Post s'
    | .error _ => False) s2) E s1) E s
theorem dl_out (hs : ∀ x, foldedSetIterable i1 env x = pure x) (J : Nat → Shared → Prop)
    (turn : ∀ n s, J n s → Turn (model prog w) A env R t0 it ifs0 (InnB (model prog w) A env (.DictComp kx vx [⟨t0, i0, ifs0, 0⟩, ⟨t1, i1, ifs1, 0⟩] scope pos) i1 (.ref D) (notedBy (model prog w) A env fun e s' => R (.error e) s') fun s' => ∃ m, m < n ∧ J m s') (fun s' => ∃ m, m < n ∧ J m s') s)
    (n : Nat) (h : J n s) : codeAny (model prog w) A (.compLoop (.DictComp kx vx [⟨t0, i0, ifs0, 0⟩, ⟨t1, i1, ifs1, 0⟩] scope pos) 0 it (.ref D) env) R s := by
  refine codeAny_loop rfl J (fun n s hJ => ?_) n h
  show wpAny _ A ((compTurn (.DictComp kx vx [⟨t0, i0, ifs0, 0⟩, ⟨t1, i1, ifs1, 0⟩] scope pos) 0 it (.ref D) env).onRaise (fun x => do noteFrame x env; theTreesLotGoes x)) _ _ s
  refine wpAny_noted ?_
  rw [dturn_out]
  refine wpAny_bind (wpAny_standAt (wpAny_bind (wpAny_mono (turn n s hJ) (fun r s1 h1 => ?_) fun _ _ z => z)))
  cases r with
  | none => exact wpAny_pure h1
  | some v =>
    refine wpAny_bind (wpAny_mono h1 (fun _ s2 h2 => ?_) fun _ _ z => z)
    refine wpAny_bind (wpAny_mono h2 (fun _ s3 h3 => wpAny_bind (wpAny_mono h3 (fun ok s4 h4 => ?_) fun _ _ z => z)) fun _ _ z => z)
    cases ok with
    | false => exact wpAny_pure ⟨rfl, h4⟩
    | true =>
      refine wpAny_bind (wpAny_mono h4 (fun x s5 h5 => ?_) fun _ _ z => z)
      refine wpAny_bind (wpAny_standAt (wpAny_bind (wpAny_of_eq (hs x) (wpAny_bind (wpAny_holding (wpAny_mono h5 (fun it1 s6 h6 => ?_) fun _ _ z => z))))))
      refine wpAny_bind (wpAny_runOwn ?_)
      rw [Around.mark_none]
      refine codeAny_mono h6 fun r s' hr => ?_
      cases r with
      | ok f =>
        first
          | exact wpAny_pure ⟨rfl, hr⟩
          | exact wpAny_bind (wpAny_pure (wpAny_pure ⟨rfl, hr⟩))
      | error e => exact hr.elim
theorem dl_in (J : Nat → Shared → Prop)
    (turn : ∀ n s, J n s → Turn (model prog w) A env R t1 it ifs1 (PutB (model prog w) A env kx vx D (notedBy (model prog w) A env fun e s' => R (.error e) s') fun s' => ∃ m, m < n ∧ J m s') (fun s' => ∃ m, m < n ∧ J m s') s)
    (n : Nat) (h : J n s) : codeAny (model prog w) A (.compLoop (.DictComp kx vx [⟨t0, i0, ifs0, 0⟩, ⟨t1, i1, ifs1, 0⟩] scope pos) 1 it (.ref D) env) R s := by
  refine codeAny_loop rfl J (fun n s hJ => ?_) n h
  show wpAny _ A ((compTurn (.DictComp kx vx [⟨t0, i0, ifs0, 0⟩, ⟨t1, i1, ifs1, 0⟩] scope pos) 1 it (.ref D) env).onRaise (fun x => do noteFrame x env; theTreesLotGoes x)) _ _ s
  refine wpAny_noted ?_
  rw [dturn_in]
  refine wpAny_bind (wpAny_standAt (wpAny_bind (wpAny_mono (turn n s hJ) (fun r s1 h1 => ?_) fun _ _ z => z)))
  cases r with
  | none => exact wpAny_pure h1
  | some v =>
    refine wpAny_bind (wpAny_mono h1 (fun _ s2 h2 => ?_) fun _ _ z => z)
    refine wpAny_bind (wpAny_mono h2 (fun _ s3 h3 => wpAny_bind (wpAny_mono h3 (fun ok s4 h4 => ?_) fun _ _ z => z)) fun _ _ z => z)
    cases ok with
    | false => exact wpAny_pure ⟨rfl, h4⟩
    | true =>
      refine wpAny_bind (wpAny_bind (wpAny_mono h4 (fun kv s5 h5 => ?_) fun _ _ z => z))
      refine wpAny_bind (wpAny_holding (wpAny_mono h5 (fun vv s6 h6 => ?_) fun _ _ z => z))
      exact wpAny_bind (wpAny_standAt (wpAny_holding (wpAny_mono h6 (fun _ s7 h7 => wpAny_pure ⟨rfl, h7⟩) fun _ _ z => z)))
theorem ds_in {acc : Value} (h0 : codeAny (model prog w) A (.compLoop (.DictComp kx vx [⟨t0, i0, ifs0, 0⟩, ⟨t1, i1, ifs1, 0⟩] scope pos) 1 it acc env) R s)
    (h : wpAny (model prog w) A (pyIter it) (fun it' s' => codeAny (model prog w) A (.compLoop (.DictComp kx vx [⟨t0, i0, ifs0, 0⟩, ⟨t1, i1, ifs1, 0⟩] scope pos) 1 it' acc env) R s') (notedBy (model prog w) A env fun x s' => R (.error x) s') s) :
    codeAny (model prog w) A (.compStart (.DictComp kx vx [⟨t0, i0, ifs0, 0⟩, ⟨t1, i1, ifs1, 0⟩] scope pos) 1 it acc env) R s := by
  refine codeAny_of_tree ?_
  show wpAny _ _ ((compStart (.DictComp kx vx [⟨t0, i0, ifs0, 0⟩, ⟨t1, i1, ifs1, 0⟩] scope pos) 1 it acc env).onRaise (fun x => do noteFrame x env; standAt theWindowsPlace)) _ _ s
  refine wpAny_notedAt ?_
  unfold compStart
  show wpAny _ _ (ask >>= _) _ _ s
  refine wpAny_bind (wpAny_askSetting (wpAny_ite ?_))
  split
  · first
      | exact wpAny_bind (wpAny_pure (wpAny_pure (And.intro rfl h0)))
      | exact wpAny_pure (And.intro rfl h0)
  · first
      | exact wpAny_bind (wpAny_rule (wpAny_bind (wpAny_standAt (wpAny_bind (wpAny_mono h (fun it2 s2 z => wpAny_pure (And.intro rfl z)) fun _ _ x => x)))))
      | (refine wpAny_bind (wpAny_rule ?_); show wpAny _ _ (standAt i1.pos >>= _) _ _ s; exact wpAny_bind (wpAny_standAt (wpAny_bind (wpAny_mono h (fun it2 s2 z => wpAny_pure (And.intro rfl z)) fun _ _ x => x))))
end
/-- the store, keys of either kind -/
theorem dset_put {X : Cx} {pins : List (Addr × Obj)} {σ : L2.St} {H H' : Hp} {s : Shared} {E : Value → Shared → Prop} {D : Addr} {y v : V} {u r : Value} {Q : Unit → Shared → Prop} (hu : X.A.units + 1 < cLine) (I : Inv X pins σ H s) (g : DPut H D y v H') (ry : RelV y u) (rv : RelV v r)
    (h : ∀ s', Inv X pins σ H' s' → Q () s') : wpAny (model X.prog X.w) X.A (dictSet D u r) Q E s := by
  rcases g with ⟨kvs, k, e, ey, l, eH⟩ | ⟨kvs, k, b, e, ey, eb, l, eH⟩
  · subst ey eH
    exact d_dictSet I e l ry rv h
  · subst ey eH
    cases (show u = Value.ref b from ry)
    obtain ⟨z, hd, xs, rel, dd⟩ := dt_of I.hok e
    have hl : (putK kvs k v).length ≤ sizeLine := Nat.le_trans (length_putK kvs k v) l
    refine wpAny_dictSet_heap (hsz := by rw [← Paired.length rel]; exact z) (show X.A.units < cLine by omega) (key_of I.hok eb) dd fun h' dd' hs => h _ ?_
    obtain ⟨q, es, ep, g1, g2, g3, g4, _, g5⟩ := dd'
    refine d_write I (by rw [e]; exact True.intro) hs ⟨q, g1⟩ ⟨hl, hd, _, (rel.put k eb rv).keeps fun c ys ec => ?_, q, es, ep, g1, g2, g3, g4, g5⟩
    rw [upd_ne (ne_of ec e (fun z => nomatch z))]
    exact ec
/-! ### the block -/
/-- the new dict, empty -/
def nilD : Bool → HO
  | true => .dT []
  | false => .dK []
theorem nilD_ok {X : Cx} {pins : List (Addr × Obj)} {σ : L2.St} {H : Hp} {s : Shared} (I : Inv X pins σ H s) (t : Bool) : Inv X pins σ (upd H s.heap.objs.size (nilD t)) { s with heap := s.heap.push { cls := .type "dict", data := .dict #[] } } := by
  refine I.laid (t' := s.toks) (fun b o e => Heap.get?_push_of_some _ e) (Nat.le_refl _) ?_
  cases t with
  | true => exact dt_empty s.heap I.big
  | false => exact dk_empty s.heap I.big
/-- reading of a turn's body: the new dict, what is to be reached -/
abbrev TB := Addr → L2.St → Hp → (Hp → Prop) → Prop
/-- .. and its rule: B the body's code for a context -/
def PB (X : Cx) (vs : List Nat) (B : Addr → (Shared → Prop) → Shared → Prop) (tb : TB) : Prop :=
  ∀ (pins : List (Addr × Obj)) (s : Shared) (σ : L2.St) (H : Hp) (D : Addr) (Nx : Hp → Prop) (Post : Shared → Prop), Inv X pins σ H s → tb D σ H Nx →
    (∀ s' σ' H', Inv X pins σ' H' s' → σ'.length = σ.length → (∀ (j : Nat) v, σ[j]? = some (some v) → j ∉ vs → σ'[j]? = some (some v)) → Nx H' → Post s') → B D Post s
theorem PutB.mono {M : Model} {A : Around} {env : PySem.Env} {kx vx : Expr} {D : Addr} {E : Value → Shared → Prop} {P : Shared → Prop} {s : Shared} (h : PutB M A env kx vx D (fun _ _ => False) P s) : PutB M A env kx vx D E P s :=
  wpAny_mono h (fun _ _ h1 => wpAny_mono h1 (fun _ _ h2 => wpAny_mono h2 (fun _ _ z => z) fun _ _ z => z.elim) fun _ _ z => z.elim) fun _ _ z => z.elim
theorem InnB.mono {M : Model} {A : Around} {env : PySem.Env} {cx i1 : Expr} {acc : Value} {E : Value → Shared → Prop} {P : Shared → Prop} {s : Shared} (h : InnB M A env cx i1 acc (fun _ _ => False) P s) : InnB M A env cx i1 acc E P s :=
  wpAny_mono h (fun _ _ h1 => wpAny_mono h1 (fun _ _ z => z) fun _ _ z => z.elim) fun _ _ z => z.elim
/-- key, value, store -/
def tPut (tk tv : TE) : TB := fun D σ H Nx => tk σ H fun y H1 => tv σ H1 fun z H2 => ∃ H3, DPut H2 D y z H3 ∧ Nx H3
theorem pb_put {X : Cx} {kx vx : Expr} {tk tv : TE} {vs : List Nat} (hx : X.xe = fun _ _ => False) (hu : X.A.units + 1 < cLine) (hk : PE X kx tk) (hv : PE X vx tv) : PB X vs (fun D Post s => PutB (model X.prog X.w) X.A X.env kx vx D (fun _ _ => False) Post s) (tPut tk tv) := by
  intro pins s σ H D Nx Post I h fin
  have a := hk.run pins s σ H _ I h
  rw [hx] at a
  refine thn a fun kv s1 ⟨y, H1, I1, r1, q1⟩ => ?_
  have b := hv.run pins s1 σ H1 _ I1 q1
  rw [hx] at b
  refine thn b fun vv s2 ⟨z, H2, I2, r2, H3, g, nx⟩ => ?_
  exact dset_put hu I2 g r1 r2 fun s3 I3 => fin s3 σ H3 I3 rfl (fun _ _ e _ => e) nx
section
variable {X : Cx}
/-- {.. for tg in iter if ..}: the body as tb says -/
def tBlk (t : Bool) (wi : TI) (g : TG) (tt : TT) (tb : TB) (vs : List Nat) : TE := fun σ H Q => wi σ H fun J H1 => ∀ D, H1 D = none → ∃ W : Nat → Nat → Hp → Prop, (∃ m, W 0 m (upd H1 D (nilD t))) ∧ ∀ i m H, W i m H →
  (J.stop i H ∧ Q (.ref D) H) ∨ (J.go i H ∧ ∃ Nx : Hp → Prop, (∀ H', Nx H' → ∃ m', m' < m ∧ W (i + 1) m' H') ∧ ∀ x H', J.yld i H x H' → g x (wipe σ vs) H' fun σ2 H2 => wipe σ2 vs = wipe σ vs ∧ tt σ2 H2 fun b H3 => if b = true then tb D σ2 H3 Nx else Nx H3)
theorem blk_run {pins : List (Addr × Obj)} {s : Shared} {σ : L2.St} {H : Hp} {Q : VK} {use : Option (Value → Sem Unit)} {Qf : Value → Shared → Prop} {pos' : Pos} {kx vx tg iter : Expr} {ifs : List Expr} {rest : List Comprehension} {scope : Scope} {own : List (Str × Nat)} {pos : Pos} {wi : TI} {g : TG} {tt : TT} {tb : TB} {t : Bool} (B : PySem.Env → Addr → (Value → Shared → Prop) → (Shared → Prop) → Shared → Prop)
    (hB : ∀ env D E P s, B env D (fun _ _ => False) P s → B env D E P s)
    (rule : ∀ {R : Result → Shared → Prop} {s : Shared} {it : Value} {D : Addr} {env : PySem.Env} (J : Nat → Shared → Prop), (∀ n s, J n s → Turn (model X.prog X.w) X.A env R tg it ifs (B env D (notedBy (model X.prog X.w) X.A env fun e s' => R (.error e) s') fun s' => ∃ m, m < n ∧ J m s') (fun s' => ∃ m, m < n ∧ J m s') s) →
      ∀ n, J n s → codeAny (model X.prog X.w) X.A (.compLoop (.DictComp kx vx (⟨tg, iter, ifs, 0⟩ :: rest) scope pos) 0 it (.ref D) env) R s)
    (hc : X.calm = true) (hN : X.N.Nodup) (hi : PI X tg iter wi) (ok : BlkOk X.N X.env.scope scope own)
    (hg : ∀ (s : Shared) (H : Hp) (C : Addr) (cl : List (Str × Addr)) (fp : List Addr), PG (X.blk s H scope (compEnvC scope cl C X.env) fp) tg g)
    (ht : ∀ (s : Shared) (H : Hp) (C : Addr) (cl : List (Str × Addr)) (fp : List Addr), PTs (X.blk s H scope (compEnvC scope cl C X.env) fp) ifs tt)
    (hb : ∀ (s : Shared) (H : Hp) (C : Addr) (cl : List (Str × Addr)) (fp : List Addr), PB (X.blk s H scope (compEnvC scope cl C X.env) fp) (own.map (·.2)) (fun D P s' => B (compEnvC scope cl C X.env) D (fun _ _ => False) P s') tb)
    (hs : ∀ x, foldedSetIterable iter X.env x = pure x) (I : Inv X pins σ H s) (h : tBlk t wi g tt tb (own.map (·.2)) σ H Q)
    (fr : ∀ D C s' m H', Inv X pins σ H' s' → Q (.ref D) H' → s'.heap.Ns C m → FpOk X pins H' C → compPost (model X.prog X.w) X.A X.xe use Qf (.ref D) C (.ok .next) s') :
    wpAny (model X.prog X.w) X.A (comprehension (.DictComp kx vx (⟨tg, iter, ifs, 0⟩ :: rest) scope pos) scope X.env pos' newDict false (eval iter X.env) use) Qf X.xe s := by
  have hfree : ∀ y ∈ scope.names, y.2 = .free → ∃ c, X.env.cells.lookup y.1 = some c := fun y hy e => (ok.free y hy e).elim (fun k => I.ok.has _ (.inl k)) fun k => I.ok.has _ (.inr k)
  refine wpAny_comprehension_free (use := use) rfl hs (closure_ok hfree) ok.kind (fun y hy e => by rw [ok.uniq y hy, e]) (thn (hi.run pins s σ H _ I h) fun xv s1 hx => thn hx fun itv s2 h2 => ?_)
  obtain ⟨it, fp, tn, Jt, H2, e, I2, TT, st2, f2, q⟩ := h2
  subst e
  refine wpAny_newObj_type (newEnv_comp ?_)
  have hDn : H2 s2.heap.objs.size = none := I2.hok.fresh (Nat.le_refl _)
  obtain ⟨W, ⟨m0, w0⟩, turn⟩ := q _ hDn
  have I3 := nilD_ok I2 t
  have szD : ∀ b ∈ fp, b < s2.heap.objs.size := fun b hb => let ⟨_, e, _⟩ := TT.obj _ _ st2 b hb; Heap.lt_size e
  have st3 : tn 0 (s2.heap.push { cls := .type "dict", data := .dict #[] }) := TT.keep _ _ _ st2 fun b _ o e => Heap.get?_push_of_some _ e
  have f3 : ∀ b ∈ fp, FpOk X pins (upd H2 s2.heap.objs.size (nilD t)) b ∧ b < (s2.heap.push { cls := .type "dict", data := .dict #[] }).objs.size := fun b hb =>
    ⟨⟨by rw [upd_ne (Nat.ne_of_lt (szD b hb))]; exact (f2 b hb).1, (f2 b hb).2⟩, by rw [Heap.size_push]; exact Nat.lt_succ_of_lt (szD b hb)⟩
  generalize s2.heap.objs.size = D at I3 w0 turn f3 ⊢
  generalize hs3 : ({ s2 with heap := s2.heap.push { cls := .type "dict", data := .dict #[] } } : Shared) = s3 at I3 ⊢
  have e3 : s2.heap.push { cls := .type "dict", data := .dict #[] } = s3.heap := by rw [← hs3]
  rw [e3] at st3 f3
  generalize hH3 : upd H2 D (nilD t) = H3 at I3 w0 f3
  have I4 := block_start I3 ok hN f3
  have pg := hg s3 H3 s3.heap.objs.size (cellsFrom (s3.heap.objs.size + 1) scope.names (cloFrom X.env.cells scope.names [])) fp
  have pt := ht s3 H3 s3.heap.objs.size (cellsFrom (s3.heap.objs.size + 1) scope.names (cloFrom X.env.cells scope.names [])) fp
  have pb := hb s3 H3 s3.heap.objs.size (cellsFrom (s3.heap.objs.size + 1) scope.names (cloFrom X.env.cells scope.names [])) fp
  show codeAny _ _ (.compStart (.DictComp kx vx (⟨tg, iter, ifs, 0⟩ :: rest) scope pos) 0 (.ref it) (.ref D) (compEnvC scope (cellsFrom (s3.heap.objs.size + 1) scope.names (cloFrom X.env.cells scope.names [])) s3.heap.objs.size X.env)) _ { s3 with heap := pushCells (s3.heap.push { cls := .type "dict", data := .dict #[] }) scope.names }
  have nfp : ∀ b ∈ fp, H3 b = none := fun b hb => (f3 b hb).1.1
  generalize hce : compEnvC scope (cellsFrom (s3.heap.objs.size + 1) scope.names (cloFrom X.env.cells scope.names [])) s3.heap.objs.size X.env = ce at I4 pg pt pb ⊢
  have cL : ce.locals = s3.heap.objs.size := by subst hce; rfl
  generalize hs4 : ({ s3 with heap := pushCells (s3.heap.push { cls := .type "dict", data := .dict #[] }) scope.names } : Shared) = s4 at I4 ⊢
  have st4 : tn 0 s4.heap := TT.keep _ _ _ st3 fun b _ o e => by rw [← hs4]; exact pushCells_keeps _ _ _ _ (Heap.get?_push_of_some _ e)
  have stat : ∀ {σ' : L2.St} {H' : Hp} {s' : Shared}, Inv (X.blk s3 H3 scope ce fp) [] σ' H' s' → (∀ b ∈ fp, H' b = none) → ∀ b ∈ fp, FpOk (X.blk s3 H3 scope ce fp) [] H' b := fun {σ' H' s'} I' hn b hb =>
    ⟨hn b hb, (I'.ok.exf b hb).1, I'.ok.exfs b hb, .inl hb, fun x c e => (I'.ok.exf b hb).2 x c e, fun p hp => absurd (show p ∈ ([] : List (Addr × Obj)) ++ [] from hp) (by simp)⟩
  have loop : codeAny (model X.prog X.w) X.A (.compLoop (.DictComp kx vx (⟨tg, iter, ifs, 0⟩ :: rest) scope pos) 0 (.ref it) (.ref D) ce) (compPost (model X.prog X.w) X.A X.xe use Qf (.ref D) s3.heap.objs.size) s4 := by
    refine rule (fun n s' => ∃ i H', Inv (X.blk s3 H3 scope ce fp) [] (wipe σ (own.map (·.2))) H' s' ∧ tn i s'.heap ∧ (∀ b ∈ fp, H' b = none) ∧ W i n H') ?_ m0 ⟨0, H3, I4, st4, nfp, w0⟩
    rintro n s5 ⟨i, H5, I5, st5, n5, w5⟩
    rcases turn i n H5 w5 with ⟨stop, qq⟩ | ⟨go, Nx, hNx, step⟩
    · refine thnF (TT.done (X.blk s3 H3 scope ce fp) rfl rfl rfl hc i [] s5 _ H5 (fun _ _ => False) I5 (stat I5 n5) st5 stop) fun r s6 ⟨hr, I6⟩ => ?_
      subst hr
      have I7 : Inv X pins σ H5 s6 := I3.call' (ch := fp) I6.os I6.base I6.hok I6.bare fun b hb => ⟨(f3 b hb).1.2.2.2.1, (f3 b hb).1.2.1, (f3 b hb).1.2.2.2.2.1, (f3 b hb).1.2.2.2.2.2⟩
      have nC : H5 s3.heap.objs.size = none := by rw [← cL]; exact I6.free
      obtain ⟨m, hn, _⟩ := I6.loc
      have hn : s6.heap.Ns ce.locals m := hn
      rw [cL] at hn
      exact fr D s3.heap.objs.size s6 m H5 I7 qq hn (I3.fpOk (Nat.le_refl _) nC)
    · refine thnF (TT.item (X.blk s3 H3 scope ce fp) rfl rfl rfl hc i [] s5 _ H5 (fun _ _ => False) I5 (stat I5 n5) st5 go) fun r s6 ⟨u, hr, h6⟩ => ?_
      subst hr
      refine thnF h6 fun _ s7 ⟨x, H7, I7, r7, y7, st7, n7⟩ => ?_
      have I7' := I7.pinned (stat I7 n7) (TT.obj _ _ st7)
      refine thnF (pg.run _ s7 _ H7 x u _ I7' r7 (step x H7 y7)) fun _ s8 ⟨σ8, H8, I8, hw8, q8⟩ => ?_
      refine thnF (pt.run _ s8 σ8 H8 _ I8 q8) fun b s9 ⟨H9, I9, q9⟩ => ?_
      have hl8 : (wipe σ (own.map (·.2))).length = σ8.length := by rw [← hw8, wipe_length]
      have fin : ∀ {σ9 : L2.St} {s' : Shared} {H' : Hp}, Inv (X.blk s3 H3 scope ce fp) ([] ++ pinsAt fp s7.heap) σ9 H' s' → σ9.length = σ8.length → (∀ (j : Nat) v, σ8[j]? = some (some v) → j ∉ own.map (·.2) → σ9[j]? = some (some v)) → Nx H' →
          ∃ m, m < n ∧ ∃ i H', Inv (X.blk s3 H3 scope ce fp) [] (wipe σ (own.map (·.2))) H' s' ∧ tn i s'.heap ∧ (∀ b ∈ fp, H' b = none) ∧ W i m H' := fun {σ9 s' H'} I' hl9 hk9 nx => by
        obtain ⟨m', hm, w'⟩ := hNx H' nx
        have pin2 : ∀ b ∈ fp, ∀ o, s7.heap.get? b = some o → s'.heap.get? b = some o ∧ H' b = none := fun b hb o e => let z := I'.pin (b, o) (List.mem_append_right _ (List.mem_append_right _ (mem_pinsAt hb e))); ⟨z.1, z.2.1⟩
        refine ⟨m', hm, i + 1, H', (I'.unpinned (pins := [])).weak (hl8.trans hl9.symm) (fun j v e => ?_), TT.keep _ _ _ st7 fun b hb o e => (pin2 b hb o e).1, fun b hb => let ⟨o, e, _⟩ := TT.obj _ _ st7 b hb; (pin2 b hb o e).2, w'⟩
        rw [← hw8] at e
        exact hk9 j v (wipe_some e).1 (wipe_some e).2
      cases b with
      | false => exact fin (σ9 := σ8) I9 rfl (fun _ _ e _ => e) q9
      | true => exact hB _ _ _ _ _ (pb _ s9 σ8 H9 D Nx _ I9 q9 fun s' σ' H' I' hl' hk' nx => fin I' hl' hk' nx)
  exact codeAny_compStart_dict loop (TT.self X.A 0 _ _ _ st4 loop)
theorem blk_core {kx vx tg iter : Expr} {ifs : List Expr} {rest : List Comprehension} {scope : Scope} {own : List (Str × Nat)} {pos : Pos} {wi : TI} {g : TG} {tt : TT} {tb : TB} {t : Bool} (B : PySem.Env → Addr → (Value → Shared → Prop) → (Shared → Prop) → Shared → Prop)
    (hB : ∀ env D E P s, B env D (fun _ _ => False) P s → B env D E P s)
    (rule : ∀ {R : Result → Shared → Prop} {s : Shared} {it : Value} {D : Addr} {env : PySem.Env} (J : Nat → Shared → Prop), (∀ n s, J n s → Turn (model X.prog X.w) X.A env R tg it ifs (B env D (notedBy (model X.prog X.w) X.A env fun e s' => R (.error e) s') fun s' => ∃ m, m < n ∧ J m s') (fun s' => ∃ m, m < n ∧ J m s') s) →
      ∀ n, J n s → codeAny (model X.prog X.w) X.A (.compLoop (.DictComp kx vx (⟨tg, iter, ifs, 0⟩ :: rest) scope pos) 0 it (.ref D) env) R s)
    (hc : X.calm = true) (hN : X.N.Nodup) (hi : PI X tg iter wi) (ok : BlkOk X.N X.env.scope scope own)
    (hg : ∀ (s : Shared) (H : Hp) (C : Addr) (cl : List (Str × Addr)) (fp : List Addr), PG (X.blk s H scope (compEnvC scope cl C X.env) fp) tg g)
    (ht : ∀ (s : Shared) (H : Hp) (C : Addr) (cl : List (Str × Addr)) (fp : List Addr), PTs (X.blk s H scope (compEnvC scope cl C X.env) fp) ifs tt)
    (hb : ∀ (s : Shared) (H : Hp) (C : Addr) (cl : List (Str × Addr)) (fp : List Addr), PB (X.blk s H scope (compEnvC scope cl C X.env) fp) (own.map (·.2)) (fun D P s' => B (compEnvC scope cl C X.env) D (fun _ _ => False) P s') tb)
    (hs : ∀ x, foldedSetIterable iter X.env x = pure x) : PE X (.DictComp kx vx (⟨tg, iter, ifs, 0⟩ :: rest) scope pos) (tBlk t wi g tt tb (own.map (·.2))) := by
  refine ⟨fun pins s σ H Q I h => ?_⟩
  rw [arm_eval_DictComp]
  refine blk_run B hB rule hc hN hi ok hg ht hb hs I h fun D A s6 m H5 I7 qq hn fk => ?_
  obtain ⟨g0, g1, g2, g3, g4, g5⟩ := fk
  exact ⟨m, hn, fun h'' sb => ⟨.ref D, H5, I7.turned (t' := s6.toks) (fun b o hb e => (sb.2 b hb).trans e) g0 g1 g3 g4 g5, rfl, qq⟩⟩
/-- name = (dict comprehension), on one line, the name a local -/
theorem blk_set {i : Nat} {y : Str} {py spos : Pos} {kx vx tg iter : Expr} {ifs : List Expr} {rest : List Comprehension} {scope : Scope} {own : List (Str × Nat)} {pos : Pos} {wi : TI} {g : TG} {tt : TT} {tb : TB} {t : Bool} (B : PySem.Env → Addr → (Value → Shared → Prop) → (Shared → Prop) → Shared → Prop)
    (hB : ∀ env D E P s, B env D (fun _ _ => False) P s → B env D E P s)
    (rule : ∀ {R : Result → Shared → Prop} {s : Shared} {it : Value} {D : Addr} {env : PySem.Env} (J : Nat → Shared → Prop), (∀ n s, J n s → Turn (model X.prog X.w) X.A env R tg it ifs (B env D (notedBy (model X.prog X.w) X.A env fun e s' => R (.error e) s') fun s' => ∃ m, m < n ∧ J m s') (fun s' => ∃ m, m < n ∧ J m s') s) →
      ∀ n, J n s → codeAny (model X.prog X.w) X.A (.compLoop (.DictComp kx vx (⟨tg, iter, ifs, 0⟩ :: rest) scope pos) 0 it (.ref D) env) R s)
    (hc : X.calm = true) (hN : X.N.Nodup) (hi : PI X tg iter wi) (ok : BlkOk X.N X.env.scope scope own)
    (hg : ∀ (s : Shared) (H : Hp) (C : Addr) (cl : List (Str × Addr)) (fp : List Addr), PG (X.blk s H scope (compEnvC scope cl C X.env) fp) tg g)
    (ht : ∀ (s : Shared) (H : Hp) (C : Addr) (cl : List (Str × Addr)) (fp : List Addr), PTs (X.blk s H scope (compEnvC scope cl C X.env) fp) ifs tt)
    (hb : ∀ (s : Shared) (H : Hp) (C : Addr) (cl : List (Str × Addr)) (fp : List Addr), PB (X.blk s H scope (compEnvC scope cl C X.env) fp) (own.map (·.2)) (fun D P s' => B (compEnvC scope cl C X.env) D (fun _ _ => False) P s') tb)
    (hs : ∀ x, foldedSetIterable iter X.env x = pure x) (hy : X.N[i]? = some y) (hyl : X.env.scope.names.lookup y = some .local) (hsw : swapsWith (.DictComp kx vx (⟨tg, iter, ifs, 0⟩ :: rest) scope pos) (some (.Name y py)) spos.line X.env = pure true) :
    PS X (.Assign [.Name y py] (.DictComp kx vx (⟨tg, iter, ifs, 0⟩ :: rest) scope pos) spos) (tAsg (tBlk t wi g tt tb (own.map (·.2))) (gName i)) := by
  refine ⟨fun pins s σ H D I h => ?_⟩
  rw [exec_Assign_Name_used _ _ _ _ hsw]
  refine wpAny_bind (wpAny_standAt (wpAny_bind ?_))
  rw [arm_evalThenUse_DictComp]
  have h2 : tBlk t wi g tt tb (own.map (·.2)) σ H (fun x H1 => gName i x σ H1 D.nx) := h
  refine wpAny_bind (thn (blk_run (Qf := fun _ s' => SP X pins D .next s') B hB rule hc hN hi ok hg ht hb hs I h2 fun L A s6 m H5 I7 qq hn fk => ?_) fun _ s' hq => wpAny_pure (wpAny_pure hq))
  show wpAny _ _ (assign (.Name y py) X.env (.ref L)) _ _ _
  refine wpAny_assign_Name (store_ok2 (v := V.ref L) I7 hN hy (.inl hyl) rfl (fun s2 I2 ⟨a, sb, ha⟩ => ?_) (.inr hyl))
  obtain ⟨g0, g1, g2, g3, g4, g5⟩ := fk
  have ne : A ≠ a := by
    rcases ha with z | z
    · rw [z]; exact g1
    · exact fun e => g4 y a z e.symm
  exact ⟨m, hn.sameBut sb ne, fun h3 sb3 => ⟨_, H5, I2.turned (t' := s2.toks) (fun b o hb e => (sb3.2 b hb).trans e) g0 g1 g3 g4 g5, qq⟩⟩
/-- the second clause -/
def tInn (wi : TI) (g : TG) (tt : TT) (tb : TB) (vs1 : List Nat) : TB := fun D σ H Nx => wi σ H fun J H1 => ∃ W : Nat → Nat → Hp → Prop, (∃ m, W 0 m H1) ∧ ∀ i m H, W i m H →
  (J.stop i H ∧ Nx H) ∨ (J.go i H ∧ ∃ N1 : Hp → Prop, (∀ H', N1 H' → ∃ m', m' < m ∧ W (i + 1) m' H') ∧ ∀ x H', J.yld i H x H' → g x (wipe σ vs1) H' fun σ2 H2 => wipe σ2 vs1 = wipe σ vs1 ∧ tt σ2 H2 fun b H3 => if b = true then tb D σ2 H3 N1 else N1 H3)
theorem pb_inn {kx vx t0 i0 t1 i1 : Expr} {ifs0 ifs1 : List Expr} {scope : Scope} {pos : Pos} {wi : TI} {g : TG} {tt : TT} {tb : TB} {vs vs1 : List Nat} (hx : X.xe = fun _ _ => False) (hc : X.calm = true) (hv : ∀ i ∈ vs1, i ∈ vs)
    (hi : PI X t1 i1 wi) (hg : PG X t1 g) (ht : PTs X ifs1 tt) (hb : PB X vs1 (fun D Post s => PutB (model X.prog X.w) X.A X.env kx vx D (fun _ _ => False) Post s) tb) :
    PB X vs (fun D Post s => InnB (model X.prog X.w) X.A X.env (.DictComp kx vx [⟨t0, i0, ifs0, 0⟩, ⟨t1, i1, ifs1, 0⟩] scope pos) i1 (.ref D) (fun _ _ => False) Post s) (tInn wi g tt tb vs1) := by
  intro pins s σ H D Nx Post I h fin
  have r0 := hi.run pins s σ H _ I h
  rw [hx] at r0
  refine thn r0 fun xv s1 hx1 => ?_
  refine thn hx1 fun itv s2 h2 => ?_
  obtain ⟨it, fp, tn, Jt, H2, e, I2, TT, st2, f2, W, ⟨m0, w0⟩, turn⟩ := h2
  subst e
  have stat : ∀ {H' : Hp}, (∀ b ∈ fp, H' b = none) → ∀ b ∈ fp, FpOk X pins H' b := fun hn b hb => ⟨hn b hb, (f2 b hb).2⟩
  have loop : codeAny (model X.prog X.w) X.A (.compLoop (.DictComp kx vx [⟨t0, i0, ifs0, 0⟩, ⟨t1, i1, ifs1, 0⟩] scope pos) 1 (.ref it) (.ref D) X.env) (fun r s' => match r with
      | .ok _ => Post s'
      | .error _ => False) s2 := by
    refine dl_in (fun k s' => ∃ j H', Inv X pins (wipe σ vs1) H' s' ∧ tn j s'.heap ∧ (∀ b ∈ fp, H' b = none) ∧ W j k H') ?_ m0 ⟨0, H2, I2.weak (wipe_length _ _) (fun j v e => (wipe_some e).1), st2, fun b hb => (f2 b hb).1, w0⟩
    rintro n s5 ⟨i, H5, I5, st5, n5, w5⟩
    rcases turn i n H5 w5 with ⟨stop, qq⟩ | ⟨go, N1, hN1, step⟩
    · refine thnF (TT.done X rfl rfl rfl hc i pins s5 _ H5 (fun _ _ => False) I5 (stat n5) st5 stop) fun r s6 ⟨hr, I6⟩ => ?_
      subst hr
      exact fin s6 _ H5 I6 (wipe_length _ _) (fun j v e hj => by rw [wipe_out fun z => hj (hv j z)]; exact e) qq
    · refine thnF (TT.item X rfl rfl rfl hc i pins s5 _ H5 (fun _ _ => False) I5 (stat n5) st5 go) fun r s6 ⟨u, hr, h6⟩ => ?_
      subst hr
      refine thnF h6 fun _ s7 ⟨x, H7, I7, r7, y7, st7, n7⟩ => ?_
      have I7' := I7.pinned (stat n7) (TT.obj _ _ st7)
      have rg := hg.run _ s7 _ H7 x u _ I7' r7 (step x H7 y7)
      rw [hx] at rg
      refine thnF rg fun _ s8 ⟨σ8, H8, I8, hw8, q8⟩ => ?_
      have rt := ht.run _ s8 σ8 H8 _ I8 q8
      rw [hx] at rt
      refine thnF rt fun b s9 ⟨H9, I9, q9⟩ => ?_
      have hl8 : (wipe σ vs1).length = σ8.length := by rw [← hw8, wipe_length]
      have end1 : ∀ {σ9 : L2.St} {s' : Shared} {H' : Hp}, Inv X (pins ++ pinsAt fp s7.heap) σ9 H' s' → σ9.length = σ8.length → (∀ (j : Nat) v, σ8[j]? = some (some v) → j ∉ vs1 → σ9[j]? = some (some v)) → N1 H' →
          ∃ m, m < n ∧ ∃ i H', Inv X pins (wipe σ vs1) H' s' ∧ tn i s'.heap ∧ (∀ b ∈ fp, H' b = none) ∧ W i m H' := fun {σ9 s' H'} I' hl9 hk9 nx => by
        obtain ⟨m', hm, w'⟩ := hN1 H' nx
        have pin2 : ∀ b ∈ fp, ∀ o, s7.heap.get? b = some o → s'.heap.get? b = some o ∧ H' b = none := fun b hb o e => let z := I'.pin (b, o) (List.mem_append_right _ (List.mem_append_right _ (mem_pinsAt hb e))); ⟨z.1, z.2.1⟩
        refine ⟨m', hm, i + 1, H', I'.unpinned.weak (hl8.trans hl9.symm) (fun j v e => ?_), TT.keep _ _ _ st7 fun b hb o e => (pin2 b hb o e).1, fun b hb => let ⟨o, e, _⟩ := TT.obj _ _ st7 b hb; (pin2 b hb o e).2, w'⟩
        rw [← hw8] at e
        exact hk9 j v (wipe_some e).1 (wipe_some e).2
      cases b with
      | false => exact end1 (σ9 := σ8) I9 rfl (fun _ _ e _ => e) q9
      | true => exact PutB.mono (hb _ s9 σ8 H9 D N1 _ I9 q9 fun s' σ' H' I' hl' hk' nx => end1 I' hl' hk' nx)
  exact ds_in loop (TT.self X.A 0 _ _ _ st2 loop)
/-- {k: v for tg in iter if ..} -/
theorem pe_dcG {kx vx tg iter : Expr} {ifs : List Expr} {scope : Scope} {own : List (Str × Nat)} {pos : Pos} {wi : TI} {g : TG} {tt : TT} {tk tv : TE} (t : Bool) (hu : X.A.units + 1 < cLine) (hc : X.calm = true) (hN : X.N.Nodup) (hi : PI X tg iter wi) (ok : BlkOk X.N X.env.scope scope own)
    (hg : ∀ (s : Shared) (H : Hp) (C : Addr) (cl : List (Str × Addr)) (fp : List Addr), PG (X.blk s H scope (compEnvC scope cl C X.env) fp) tg g)
    (ht : ∀ (s : Shared) (H : Hp) (C : Addr) (cl : List (Str × Addr)) (fp : List Addr), PTs (X.blk s H scope (compEnvC scope cl C X.env) fp) ifs tt)
    (hk : ∀ (s : Shared) (H : Hp) (C : Addr) (cl : List (Str × Addr)) (fp : List Addr), PE (X.blk s H scope (compEnvC scope cl C X.env) fp) kx tk)
    (hv : ∀ (s : Shared) (H : Hp) (C : Addr) (cl : List (Str × Addr)) (fp : List Addr), PE (X.blk s H scope (compEnvC scope cl C X.env) fp) vx tv)
    (hs : ∀ x, foldedSetIterable iter X.env x = pure x) : PE X (.DictComp kx vx [⟨tg, iter, ifs, 0⟩] scope pos) (tBlk t wi g tt (tPut tk tv) (own.map (·.2))) :=
  blk_core (fun env D E P s => PutB (model X.prog X.w) X.A env kx vx D E P s) (fun _ _ _ _ _ => PutB.mono) (fun J turn n h => dl_one J turn n h) hc hN hi ok hg ht (fun s H C cl fp => pb_put rfl hu (hk s H C cl fp) (hv s H C cl fp)) hs
/-- {k: v for tg in iter if .. for tg1 in iter1 if ..} -/
theorem pe_dc2 {kx vx tg iter tg1 iter1 : Expr} {ifs ifs1 : List Expr} {scope : Scope} {own : List (Str × Nat)} {vs1 : List Nat} {pos : Pos} {wi wi1 : TI} {g g1 : TG} {tt tt1 : TT} {tk tv : TE} (t : Bool) (hu : X.A.units + 1 < cLine) (hc : X.calm = true) (hN : X.N.Nodup) (hi : PI X tg iter wi) (ok : BlkOk X.N X.env.scope scope own) (hw : ∀ i ∈ vs1, i ∈ own.map (·.2))
    (hg : ∀ (s : Shared) (H : Hp) (C : Addr) (cl : List (Str × Addr)) (fp : List Addr), PG (X.blk s H scope (compEnvC scope cl C X.env) fp) tg g)
    (ht : ∀ (s : Shared) (H : Hp) (C : Addr) (cl : List (Str × Addr)) (fp : List Addr), PTs (X.blk s H scope (compEnvC scope cl C X.env) fp) ifs tt)
    (hi1 : ∀ (s : Shared) (H : Hp) (C : Addr) (cl : List (Str × Addr)) (fp : List Addr), PI (X.blk s H scope (compEnvC scope cl C X.env) fp) tg1 iter1 wi1)
    (hg1 : ∀ (s : Shared) (H : Hp) (C : Addr) (cl : List (Str × Addr)) (fp : List Addr), PG (X.blk s H scope (compEnvC scope cl C X.env) fp) tg1 g1)
    (ht1 : ∀ (s : Shared) (H : Hp) (C : Addr) (cl : List (Str × Addr)) (fp : List Addr), PTs (X.blk s H scope (compEnvC scope cl C X.env) fp) ifs1 tt1)
    (hk : ∀ (s : Shared) (H : Hp) (C : Addr) (cl : List (Str × Addr)) (fp : List Addr), PE (X.blk s H scope (compEnvC scope cl C X.env) fp) kx tk)
    (hv : ∀ (s : Shared) (H : Hp) (C : Addr) (cl : List (Str × Addr)) (fp : List Addr), PE (X.blk s H scope (compEnvC scope cl C X.env) fp) vx tv)
    (hs : ∀ x, foldedSetIterable iter X.env x = pure x) (hs1 : ∀ env x, foldedSetIterable iter1 env x = pure x) :
    PE X (.DictComp kx vx [⟨tg, iter, ifs, 0⟩, ⟨tg1, iter1, ifs1, 0⟩] scope pos) (tBlk t wi g tt (tInn wi1 g1 tt1 (tPut tk tv) vs1) (own.map (·.2))) :=
  blk_core (fun env D E P s => InnB (model X.prog X.w) X.A env (.DictComp kx vx [⟨tg, iter, ifs, 0⟩, ⟨tg1, iter1, ifs1, 0⟩] scope pos) iter1 (.ref D) E P s) (fun _ _ _ _ _ => InnB.mono) (fun J turn n h => dl_out (hs1 _) J turn n h) hc hN hi ok hg ht
    (fun s H C cl fp => pb_inn rfl hc hw (hi1 s H C cl fp) (hg1 s H C cl fp) (ht1 s H C cl fp) (pb_put rfl hu (hk s H C cl fp) (hv s H C cl fp))) hs
theorem ps_dcG {i : Nat} {y : Str} {py spos : Pos} {kx vx tg iter : Expr} {ifs : List Expr} {scope : Scope} {own : List (Str × Nat)} {pos : Pos} {wi : TI} {g : TG} {tt : TT} {tk tv : TE} (t : Bool) (hu : X.A.units + 1 < cLine) (hc : X.calm = true) (hN : X.N.Nodup) (hi : PI X tg iter wi) (ok : BlkOk X.N X.env.scope scope own)
    (hg : ∀ (s : Shared) (H : Hp) (C : Addr) (cl : List (Str × Addr)) (fp : List Addr), PG (X.blk s H scope (compEnvC scope cl C X.env) fp) tg g)
    (ht : ∀ (s : Shared) (H : Hp) (C : Addr) (cl : List (Str × Addr)) (fp : List Addr), PTs (X.blk s H scope (compEnvC scope cl C X.env) fp) ifs tt)
    (hk : ∀ (s : Shared) (H : Hp) (C : Addr) (cl : List (Str × Addr)) (fp : List Addr), PE (X.blk s H scope (compEnvC scope cl C X.env) fp) kx tk)
    (hv : ∀ (s : Shared) (H : Hp) (C : Addr) (cl : List (Str × Addr)) (fp : List Addr), PE (X.blk s H scope (compEnvC scope cl C X.env) fp) vx tv)
    (hs : ∀ x, foldedSetIterable iter X.env x = pure x) (hy : X.N[i]? = some y) (hyl : X.env.scope.names.lookup y = some .local) (hsw : swapsWith (.DictComp kx vx [⟨tg, iter, ifs, 0⟩] scope pos) (some (.Name y py)) spos.line X.env = pure true) :
    PS X (.Assign [.Name y py] (.DictComp kx vx [⟨tg, iter, ifs, 0⟩] scope pos) spos) (tAsg (tBlk t wi g tt (tPut tk tv) (own.map (·.2))) (gName i)) :=
  blk_set (fun env D E P s => PutB (model X.prog X.w) X.A env kx vx D E P s) (fun _ _ _ _ _ => PutB.mono) (fun J turn n h => dl_one J turn n h) hc hN hi ok hg ht (fun s H C cl fp => pb_put rfl hu (hk s H C cl fp) (hv s H C cl fp)) hs hy hyl hsw
theorem ps_dc2 {i : Nat} {y : Str} {py spos : Pos} {kx vx tg iter tg1 iter1 : Expr} {ifs ifs1 : List Expr} {scope : Scope} {own : List (Str × Nat)} {vs1 : List Nat} {pos : Pos} {wi wi1 : TI} {g g1 : TG} {tt tt1 : TT} {tk tv : TE} (t : Bool) (hu : X.A.units + 1 < cLine) (hc : X.calm = true) (hN : X.N.Nodup) (hi : PI X tg iter wi) (ok : BlkOk X.N X.env.scope scope own) (hw : ∀ i ∈ vs1, i ∈ own.map (·.2))
    (hg : ∀ (s : Shared) (H : Hp) (C : Addr) (cl : List (Str × Addr)) (fp : List Addr), PG (X.blk s H scope (compEnvC scope cl C X.env) fp) tg g)
    (ht : ∀ (s : Shared) (H : Hp) (C : Addr) (cl : List (Str × Addr)) (fp : List Addr), PTs (X.blk s H scope (compEnvC scope cl C X.env) fp) ifs tt)
    (hi1 : ∀ (s : Shared) (H : Hp) (C : Addr) (cl : List (Str × Addr)) (fp : List Addr), PI (X.blk s H scope (compEnvC scope cl C X.env) fp) tg1 iter1 wi1)
    (hg1 : ∀ (s : Shared) (H : Hp) (C : Addr) (cl : List (Str × Addr)) (fp : List Addr), PG (X.blk s H scope (compEnvC scope cl C X.env) fp) tg1 g1)
    (ht1 : ∀ (s : Shared) (H : Hp) (C : Addr) (cl : List (Str × Addr)) (fp : List Addr), PTs (X.blk s H scope (compEnvC scope cl C X.env) fp) ifs1 tt1)
    (hk : ∀ (s : Shared) (H : Hp) (C : Addr) (cl : List (Str × Addr)) (fp : List Addr), PE (X.blk s H scope (compEnvC scope cl C X.env) fp) kx tk)
    (hv : ∀ (s : Shared) (H : Hp) (C : Addr) (cl : List (Str × Addr)) (fp : List Addr), PE (X.blk s H scope (compEnvC scope cl C X.env) fp) vx tv)
    (hs : ∀ x, foldedSetIterable iter X.env x = pure x) (hs1 : ∀ env x, foldedSetIterable iter1 env x = pure x) (hy : X.N[i]? = some y) (hyl : X.env.scope.names.lookup y = some .local) (hsw : swapsWith (.DictComp kx vx [⟨tg, iter, ifs, 0⟩, ⟨tg1, iter1, ifs1, 0⟩] scope pos) (some (.Name y py)) spos.line X.env = pure true) :
    PS X (.Assign [.Name y py] (.DictComp kx vx [⟨tg, iter, ifs, 0⟩, ⟨tg1, iter1, ifs1, 0⟩] scope pos) spos) (tAsg (tBlk t wi g tt (tInn wi1 g1 tt1 (tPut tk tv) vs1) (own.map (·.2))) (gName i)) :=
  blk_set (fun env D E P s => InnB (model X.prog X.w) X.A env (.DictComp kx vx [⟨tg, iter, ifs, 0⟩, ⟨tg1, iter1, ifs1, 0⟩] scope pos) iter1 (.ref D) E P s) (fun _ _ _ _ _ => InnB.mono) (fun J turn n h => dl_out (hs1 _) J turn n h) hc hN hi ok hg ht
    (fun s H C cl fp => pb_inn rfl hc hw (hi1 s H C cl fp) (hg1 s H C cl fp) (ht1 s H C cl fp) (pb_put rfl hu (hk s H C cl fp) (hv s H C cl fp))) hs hy hyl hsw
end
end Mi
namespace Mi
open PySem PySem.Spec PyProof.Rows L2
section
variable {X : Cx} {T : Tx} {W : WX} {Γ : Nat → FS} {A : Nat → Prop} {ρ ρ' : Env} {σ σ' : L2.St} {G G' H H' : Hp}
/-! ### isinstance -/
/-- a class, as the second argument -/
structure IsiC (T : Tx) (c : Cls) (cv : V) (u : Value) : Prop where
  cv : ClsV cv u
  non : PySem.W.kitOne T.K (.type "NoneType") u = some (isiB c .non)
  int : PySem.W.kitOne T.K (.type "int") u = some (isiB c (.int 0))
  bl : PySem.W.kitOne T.K (.type "bool") u = some (isiB c (.bl true))
  str : PySem.W.kitOne T.K (.type "str") u = some (isiB c (.str Str.empty))
  tup : PySem.W.kitOne T.K (.type "tuple") u = some (isiB c (.tup []))
  lst : PySem.W.kitOne T.K (.type "list") u = some (isiB c (.lst []))
  dct : PySem.W.kitOne T.K (.type "dict") u = some (isiB c (.dK []))
  obj : ∀ k ∈ T.cs, PySem.W.kitOne T.K (.ref (T.cl k)) u = some (isiB c (.obj k []))
theorem isi_ty {c : Cls} {cv : V} {u : Value} (h : IsiC T c cv u) {d : D} {v : V} (sg : Same G H) (hd : Dq T G H d v) (hk : isiOk d = true) : ∃ t, TyX T.K H v t ∧ PySem.W.kitOne T.K t u = some (isiB c d) := by
  cases d with
  | bot => cases hk
  | exc _ _ => cases hk
  | dT _ => cases hk
  | non => cases hd.non; exact ⟨_, .base .non, h.non⟩
  | bl b => cases hd.bl; exact ⟨_, .base (.bl b), h.bl⟩
  | int i => cases hd.int; exact ⟨_, .base (.int i), h.int⟩
  | str x => cases hd.str; exact ⟨_, .base (.str x), h.str⟩
  | tup ds =>
    obtain ⟨a, vs, rfl, h1, _, _⟩ := hd.tup sg
    refine ⟨_, ?_, h.tup⟩
    rcases h1 with (h1 | ⟨o, h1⟩) | h1
    · exact .base (.tup h1)
    · exact .fTuple h1
    · obtain ⟨o, its, n, e1, e2, _⟩ := h1
      exact .kTuple e1 e2
  | ftp ds =>
    obtain ⟨a, vs, rfl, h1, _, _⟩ := hd.ftp sg
    refine ⟨_, ?_, h.tup⟩
    rcases h1 with (h1 | ⟨o, h1⟩) | h1
    · exact .base (.tup h1)
    · exact .fTuple h1
    · obtain ⟨o, its, n, e1, e2, _⟩ := h1
      exact .kTuple e1 e2
  | lst ds =>
    obtain ⟨a, vs, rfl, h1, _⟩ := hd.lst sg
    refine ⟨_, ?_, h.lst⟩
    rcases h1 with (h1 | ⟨o, h1⟩) | ⟨o, its, n, e1, e2, _⟩
    · exact .base (.lst h1)
    · exact .base (.frz h1)
    · exact .kList e1 e2
  | dK kvs =>
    obtain ⟨a, vs, rfl, h1, _⟩ := hd.dK sg
    refine ⟨_, ?_, h.dct⟩
    rcases h1 with h1 | ⟨o, h1⟩
    · exact .base (.dK h1)
    · exact .fDict h1
  | obj k fs =>
    obtain ⟨a, dx, ws, rfl, h1, h2, _⟩ := hd.obj sg
    exact ⟨_, .base (.ins h1 h2.1.cl h2.1.ha h2.1.hn h2.1.htk h2.1.hm), h.obj k h2.1.mem⟩
theorem se_isi {a : Expr} {ce : Expr} {ia : IE} {c : Cls} {cv : V} {u : Value} {p pos : Pos} (hK : X.K = T.K) (hg : Gl X "isinstance") (hm : X.mg "isinstance" = none) (ha : SE X T W Γ a ia) (hc : PE X ce (tC cv)) (hi : IsiC T c cv u)
    (h1 : starEach [a, ce] X.env = (false, eval a X.env) :: starEach [ce] X.env) (h2 : starEach [ce] X.env = (false, eval ce X.env) :: starEach [] X.env) : SE X T W Γ (.Call (.Name "isinstance" p) [a, ce] [] pos) (.isi ia c) := by
  refine pe_weak (pe_callB (call_isi (X := X)) hg hm rfl (pa_cons (pe_opd ha) (pa_cons hc pa_nil h2) h1) (he := h1) (hpl := by rw [h2]; rfl)) fun σ H Q ⟨ρ, G, Qp, Ep, R, w, hq, he⟩ => ?_
  refine ⟨ρ, G, _, Ep, R, w, fun x v ρ1 G1 H1 S1 R1 o1 q1 => ?_, he⟩
  obtain ⟨t, ty, e⟩ := isi_ty hi R1.sub (opd_dq R1 o1) q1.1
  exact ⟨v, cv, t, u, _, rfl, hi.cv, by rw [hK]; exact ty, by rw [hK]; exact e, hq (.val (.bl _)) _ ρ1 G1 H1 S1 ⟨R1, rfl⟩ q1.2⟩
end
end Mi
namespace Mi
open PySem PySem.Spec PyProof.Rows L2
section
variable {X : Cx} {T : Tx} {W : WX} {Γ : Nat → FS} {A : Nat → Prop} {ρ ρ' : Env} {σ σ' : L2.St} {G G' H H' : Hp}
/-- a body that fills the cell at D; behind it the block's names are forgotten -/
def dB (T : Tx) (vs : List Nat) (bd : BD) : TB := fun D σ H Nx => ∃ (ρ : Env) (G : Hp) (c : Cell) (K : Cell → Env → Prop), Rep T (ρ ++ [.own c]) (σ ++ [some (.ref D)]) G H ∧ bd ρ c (fun c1 ρ1 => K c1 (wipeE ρ1 vs)) ∧
  ∀ c1 ρ1 G1 H1, Step (FpE (ρ ++ [.own c]) (σ ++ [some (.ref D)]) H) (FpE (ρ1 ++ [.own c1]) (L2.wipe σ vs ++ [some (.ref D)]) H1) G H G1 H1 → Rep T (ρ1 ++ [.own c1]) (L2.wipe σ vs ++ [some (.ref D)]) G1 H1 → K c1 ρ1 → Nx H1
theorem wipe_wipe (σ : L2.St) (vs : List Nat) : L2.wipe (L2.wipe σ vs) vs = L2.wipe σ vs := wipe_ext vs (wipe_length _ _) fun i hi => wipe_out hi
theorem Rep.wipeC {c : Cell} {v : V} (R : Rep T (ρ ++ [.own c]) (σ ++ [some v]) G H) (vs : List Nat) : Rep T (wipeE ρ vs ++ [.own c]) (L2.wipe σ vs ++ [some v]) G H ∧ Step (FpE (ρ ++ [.own c]) (σ ++ [some v]) H) (FpE (wipeE ρ vs ++ [.own c]) (L2.wipe σ vs ++ [some v]) H) G H G H := by
  obtain ⟨R2, f2⟩ := R.init.wipe vs
  exact R.carry R2 (Step.refl f2)
/-- the loop of one clause -/
theorem loopC {ti : Tg} {vs : List Nat} {wf : Env → (Bool → Env → Prop) → Prop} {bd : BD} {g : Option Nat} {ds : List D} {J : It} {a D : Addr} {G1 H1 : Hp} {ρ0 : Env} {c0 : Cell} {σw : L2.St} {Q0 : Cell → Env → Prop} {Fin : Hp → Prop} {P : Addr → Prop} {G0 H0 : Hp}
    (hw : L2.wipe σw vs = σw) (wk : Walk T g ds a J G1) (R4 : Rep T (ρ0 ++ [.own c0]) (σw ++ [some (.ref D)]) G1 H1) (S4 : Step P (FpE (ρ0 ++ [.own c0]) (σw ++ [some (.ref D)]) H1) G0 H0 G1 H1) (src4 : SrcAt g ds a ρ0 σw) (gv : ∀ i, g = some i → i ∉ vs) (tv : ∀ i ∈ ti.slots, i ∈ vs)
    (t0 : turnsC g ds (dcF ti vs wf bd) ds ρ0 c0 Q0) (hfin : ∀ c ρ G' H', Rep T (ρ ++ [.own c]) (σw ++ [some (.ref D)]) G' H' → Step P (FpE (ρ ++ [.own c]) (σw ++ [some (.ref D)]) H') G0 H0 G' H' → Same G1 G' → Q0 c ρ → Fin H') :
    ∃ W : Nat → Nat → Hp → Prop, (∃ m, W 0 m H1) ∧ ∀ i m H, W i m H → (J.stop i H ∧ Fin H) ∨ (J.go i H ∧ ∃ Nx : Hp → Prop, (∀ H', Nx H' → ∃ m', m' < m ∧ W (i + 1) m' H') ∧ ∀ x H', J.yld i H x H' → dTg T ti x σw H' fun σ2 H2 => L2.wipe σ2 vs = σw ∧ dF T wf σ2 H2 fun b H3 => if b = true then dB T vs bd D σ2 H3 Nx else Nx H3) := by
  have srcX : ∀ {ρ2 : Env} {c : Cell}, SrcAt g ds a ρ2 σw → SrcAt g ds a (ρ2 ++ [.own c]) (σw ++ [some (.ref D)]) := fun {ρ2 c} h => by
    cases g with
    | none => trivial
    | some k => exact ⟨get_init h.1, get_init h.2⟩
  refine ⟨fun i m H2 => m = ds.length - i ∧ i ≤ ds.length ∧ ∃ ρ2 G2 c, Rep T (ρ2 ++ [.own c]) (σw ++ [some (.ref D)]) G2 H2 ∧ Step P (FpE (ρ2 ++ [.own c]) (σw ++ [some (.ref D)]) H2) G0 H0 G2 H2 ∧ Same G1 G2 ∧ SrcAt g ds a ρ2 σw ∧ turnsC g ds (dcF ti vs wf bd) (ds.drop i) ρ2 c Q0,
    ⟨_, rfl, Nat.zero_le _, ρ0, G1, c0, R4, S4, Same.refl _, src4, t0⟩, ?_⟩
  rintro i m H2 ⟨rfl, hi, ρ2, G2, c, R5, S5, sg5, src5, t5⟩
  by_cases hlt : i < ds.length
  · refine .inr ⟨wk.go i _ _ G2 H2 hlt R5 sg5 (srcX src5), fun H3 => ∃ ρ3 G3 c3, Rep T (ρ3 ++ [.own c3]) (σw ++ [some (.ref D)]) G3 H3 ∧ Step P (FpE (ρ3 ++ [.own c3]) (σw ++ [some (.ref D)]) H3) G0 H0 G3 H3 ∧ Same G1 G3 ∧ SrcAt g ds a ρ3 σw ∧ turnsC g ds (dcF ti vs wf bd) (ds.drop (i + 1)) ρ3 c3 Q0, ?_, ?_⟩
    · rintro H3 ⟨ρ3, G3, c3, p1, p2, p3, p4, p5⟩
      exact ⟨ds.length - (i + 1), by omega, rfl, hlt, ρ3, G3, c3, p1, p2, p3, p4, p5⟩
    · intro x H3 hy
      obtain ⟨G3, d, n3, hd, dx⟩ := wk.yld i _ _ G2 H2 x H3 hlt R5 sg5 (srcX src5) hy
      have hdrop : ds.drop i = d :: ds.drop (i + 1) := by
        rw [List.drop_eq_getElem_cons hlt]
        rw [List.getElem?_eq_getElem hlt] at hd
        cases hd
        rfl
      rw [hdrop] at t5
      have t6 : dcF ti vs wf bd d ρ2 c (fun c1 ρ1 => Guard g ds ρ1 ∧ turnsC g ds (dcF ti vs wf bd) (ds.drop (i + 1)) ρ1 c1 Q0) := t5
      unfold dcF at t6
      split at t6
      · rename_i ρ3 hb
        have R6 := R5.grow n3
        have S6 := R5.growStep n3
        refine ⟨ρ2, G3, d, ρ3, R6.init, dx, hb, fun σ3 R7 s7 l7 f7 => ?_⟩
        have ws3 : L2.wipe σ3 vs = σw := (wipe_ext vs l7 fun j hj => s7 j fun z => hj (tv j z)).trans hw
        obtain ⟨R8, S8⟩ := R6.carry R7 (Step.refl f7)
        have src9 : ∀ {ρ4 : Env}, Guard g ds ρ4 → SrcAt g ds a ρ4 σw := fun {ρ4} gd => by
          cases g with
          | none => trivial
          | some k => exact ⟨gd, src4.2⟩
        refine ⟨ws3, ρ3, G3, _, R7, t6, fun b ρ4 G4 H4 S9 R9 q9 => ?_⟩
        obtain ⟨R10, S10⟩ := R8.carry R9 S9
        have ST := ((S5.trans S6).trans S8).trans S10
        cases b with
        | false =>
          obtain ⟨gd, q10⟩ := q9
          obtain ⟨R11, S11⟩ := R10.wipeC vs
          rw [ws3] at R11 S11
          exact iteF ⟨_, G4, c, R11, ST.trans S11, sg5.trans (n3.gs.trans S9.gs), src9 gd, q10⟩
        | true =>
          refine iteT ⟨ρ4, G4, c, fun c1 ρ1 => Guard g ds ρ1 ∧ turnsC g ds (dcF ti vs wf bd) (ds.drop (i + 1)) ρ1 c1 Q0, R10, q9, fun c1 ρ5 G5 H5 S12 R12 q12 => ?_⟩
          rw [ws3] at R12 S12
          exact ⟨ρ5, G5, c1, R12, ST.trans S12, sg5.trans (n3.gs.trans (S9.gs.trans S12.gs)), src9 q12.1, q12.2⟩
      · exact t6.elim
  · have ei : i = ds.length := by omega
    subst ei
    refine .inl ⟨wk.stop _ _ G2 H2 R5 sg5 (srcX src5), ?_⟩
    rw [List.drop_length] at t5
    exact hfin c ρ2 G2 H2 R5 S5 sg5 t5
/-- a second clause as a body -/
theorem inn_go {ti : Tg} {ii : II} {io : Option IE} {vs vs1 : List Nat} {bd : BD} {D : Addr} {Nx : Hp → Prop} (h : dB T vs (bdInn ti vs vs1 (wpI Γ ii) (wpF Γ io) bd) D σ H Nx) : tInn (dI T W0 (wpI Γ ii)) (dTg T ti) (dF T (wpF Γ io)) (dB T vs1 bd) vs1 D σ H Nx := by
  obtain ⟨ρ, G, c, K, R, w, hq⟩ := h
  refine ⟨ρ, G, _, fun _ _ => False, R.init, w, fun g ds ρ1 G1 H1 J a S1 R1 src wk q1 => ?_, fun _ _ _ _ _ _ _ _ _ z => z.elim⟩
  obtain ⟨⟨no, gv, tv, vv⟩, q1⟩ := q1
  obtain ⟨R2, S2⟩ := R.carry R1 S1
  obtain ⟨R3, S3⟩ := R2.wipeC vs1
  have src3 : SrcAt g ds a (wipeE ρ1 vs1) (L2.wipe σ vs1) := by
    cases g with
    | none => trivial
    | some i =>
      have hi := gv i rfl
      refine ⟨?_, by rw [wipe_out hi]; exact src.2⟩
      have keep : ∀ {vs : List Nat}, i ∉ vs → (wipeE ρ1 vs)[i]? = ρ1[i]? := fun {vs} => by
        induction vs with
        | nil => intro _; rfl
        | cons v vs ih =>
          intro hn
          simp only [List.mem_cons, not_or] at hn
          unfold wipeE
          rw [List.getElem?_set_ne (fun e => hn.1 e.symm)]
          exact ih hn.2
      rw [keep hi]; exact src.1
  refine loopC (Fin := Nx) (P := FpE (ρ ++ [.own c]) (σ ++ [some (.ref D)]) H) (wipe_wipe σ vs1) wk R3 (S2.trans S3) src3 gv tv q1 fun c5 ρ5 G5 H5 R5 S5 sg5 q5 => ?_
  obtain ⟨R6, S6⟩ := R5.wipeC vs
  have e : L2.wipe (L2.wipe σ vs1) vs = L2.wipe σ vs := wipe_ext vs (wipe_length _ _) fun i hi => wipe_out fun z => hi (vv i z)
  rw [e] at R6 S6
  exact hq c5 _ G5 H5 (S5.trans S6) R6 q5
theorem putK_G {G : Hp} : ∀ {kvs : List (Ky × D)} {ws : List (Key × V)} {k : Ky} {d : D} {v : V}, DpK T G kvs ws → okK k = true → Dp T G d v → DpK T G (Mi.putG kvs k d) (putK ws k v) := by
  intro kvs ws k d v h hk hv
  have any : ∀ {kvs : List (Ky × D)} {ws : List (Key × V)}, DpK T G kvs ws → (kvs.any fun kv => decide (kv.1 = k)) = (ws.any fun kv => decide (kv.1 = k)) := fun {kvs} => by
    induction kvs with
    | nil => intro ws h; cases h; rfl
    | cons p kvs ih => rintro ws ⟨u, ur, rfl, h1, h2⟩; simp only [List.any_cons, ih h2]
  have mp : ∀ {kvs : List (Ky × D)} {ws : List (Key × V)}, DpK T G kvs ws → DpK T G (kvs.map fun kv => if kv.1 = k then (kv.1, d) else kv) (ws.map fun kv => if kv.1 = k then (kv.1, v) else kv) := fun {kvs} => by
    induction kvs with
    | nil => intro ws h; cases h; exact rfl
    | cons p kvs ih =>
      obtain ⟨k2, d2⟩ := p
      rintro ws ⟨u, ur, rfl, h1, h2⟩
      by_cases e : k2 = k
      · simp only [List.map_cons, if_pos e]
        exact ⟨v, _, rfl, ⟨h1.1, hv⟩, ih h2⟩
      · simp only [List.map_cons, if_neg e]
        exact ⟨u, _, rfl, h1, ih h2⟩
  have ap : ∀ {kvs : List (Ky × D)} {ws : List (Key × V)}, DpK T G kvs ws → DpK T G (kvs ++ [(k, d)]) (ws ++ [(k, v)]) := fun {kvs} => by
    induction kvs with
    | nil => intro ws h; cases h; exact ⟨v, [], rfl, ⟨hk, hv⟩, rfl⟩
    | cons p kvs ih => rintro ws ⟨u, ur, rfl, h1, h2⟩; exact ⟨u, _, rfl, h1, ih h2⟩
  unfold Mi.putG putK
  rw [any h]
  split
  · exact mp h
  · exact ap h
theorem putT_G {G : Hp} : ∀ {kvs : List (List Ky × D)} {ws : List (List Key × V)} {k : List Ky} {d : D} {v : V}, DpT T G kvs ws → k.all okK = true → Dp T G d v → DpT T G (Mi.putG kvs k d) (putK ws k v) := by
  intro kvs ws k d v h hk hv
  have any : ∀ {kvs : List (List Ky × D)} {ws : List (List Key × V)}, DpT T G kvs ws → (kvs.any fun kv => decide (kv.1 = k)) = (ws.any fun kv => decide (kv.1 = k)) := fun {kvs} => by
    induction kvs with
    | nil => intro ws h; cases h; rfl
    | cons p kvs ih => rintro ws ⟨u, ur, rfl, h1, h2⟩; simp only [List.any_cons, ih h2]
  have mp : ∀ {kvs : List (List Ky × D)} {ws : List (List Key × V)}, DpT T G kvs ws → DpT T G (kvs.map fun kv => if kv.1 = k then (kv.1, d) else kv) (ws.map fun kv => if kv.1 = k then (kv.1, v) else kv) := fun {kvs} => by
    induction kvs with
    | nil => intro ws h; cases h; exact rfl
    | cons p kvs ih =>
      obtain ⟨k2, d2⟩ := p
      rintro ws ⟨u, ur, rfl, h1, h2⟩
      by_cases e : k2 = k
      · simp only [List.map_cons, if_pos e]
        exact ⟨v, _, rfl, ⟨h1.1, hv⟩, ih h2⟩
      · simp only [List.map_cons, if_neg e]
        exact ⟨u, _, rfl, h1, ih h2⟩
  have ap : ∀ {kvs : List (List Ky × D)} {ws : List (List Key × V)}, DpT T G kvs ws → DpT T G (kvs ++ [(k, d)]) (ws ++ [(k, v)]) := fun {kvs} => by
    induction kvs with
    | nil => intro ws h; cases h; exact ⟨v, [], rfl, ⟨hk, hv⟩, rfl⟩
    | cons p kvs ih => rintro ws ⟨u, ur, rfl, h1, h2⟩; exact ⟨u, _, rfl, h1, ih h2⟩
  unfold Mi.putG putK
  rw [any h]
  split
  · exact mp h
  · exact ap h
theorem key_put {d : D} {v : V} {q : Ky} (h : Dp T G d v) (e : keyOf d = some q) : v = kV q ∧ okK q = true := by
  cases d with
  | int i => cases e; cases h; exact ⟨rfl, rfl⟩
  | str x => cases e; obtain ⟨rfl, h2⟩ := h; exact ⟨rfl, h2⟩
  | _ => cases e
theorem keys_put : ∀ {ds : List D} {vs : List V} {ks : List Ky}, Dps T G ds vs → keysOf ds = some ks → vs = ks.map kV ∧ ks.all okK = true
  | [], _, _, h, e => by cases h; cases e; exact ⟨rfl, rfl⟩
  | d :: ds, _, ks, ⟨v, vr, h1, h2, h3⟩, e => by
    subst h1
    have e2 : (match keyOf d, keysOf ds with | some k, some ks => some (k :: ks) | _, _ => none) = some ks := e
    split at e2
    · rename_i k ks' e3 e4
      cases e2
      obtain ⟨rfl, o1⟩ := key_put h2 e3
      obtain ⟨rfl, o2⟩ := keys_put h3 e4
      exact ⟨rfl, by simp [o1]; simpa using o2⟩
    · cases e2
theorem DpK.len : ∀ {ds : List (Ky × D)} {vs : List (Key × V)}, DpK T G ds vs → vs.length = ds.length
  | [], _, h => by cases h; rfl
  | (_, _) :: ds, _, ⟨_, _, h1, _, h3⟩ => by subst h1; simp [DpK.len h3]
/-- a store into a dict that one owns -/
theorem putD_go {i : Nat} {a : Addr} {c : Cell} {dk dv : D} {y z : V} {K : Cell → Prop} (R : Rep T ρ σ G H) (hi : ρ[i]? = some (.own c)) (ha : σ[i]? = some (some (.ref a))) (hk : Dp T G dk y) (hz : Dp T G dv z) (h : putD c dk dv K) :
    ∃ H3 c1, DPut H a y z H3 ∧ K c1 ∧ Rep T (ρ.set i (.own c1)) σ G H3 ∧ Step (FpE ρ σ H) (FpE (ρ.set i (.own c1)) σ H3) G H G H3 := by
  obtain ⟨a2, h1, h2⟩ := R.own i c hi
  rw [ha] at h1
  cases h1
  have hb : (big : Nat) = sizeLine := big_eq
  cases c with
  | dK kvs =>
    obtain ⟨ws, h3, h4⟩ := h2
    have h5 : (match keyOf dk with | some q => kvs.length < big ∧ K (.dK (Mi.putG kvs q dv)) | none => False) := h
    split at h5
    · rename_i q eq
      obtain ⟨rfl, ok⟩ := key_put hk eq
      obtain ⟨R2, S2⟩ := R.put (o := .dK (putK ws q z)) hi ha rfl (c1 := .dK (Mi.putG kvs q dv)) rfl ⟨_, upd_same, putK_G h4 ok hz⟩
      exact ⟨_, _, DPut.k h3 (by rw [h4.len, ← hb]; exact h5.1), h5.2, R2, S2⟩
    · exact h5.elim
  | dT kvs =>
    obtain ⟨ws, h3, h4⟩ := h2
    cases dk with
    | tup ks =>
      have h5 : (match tkey ks with | some q => kvs.length < big ∧ K (.dT (Mi.putG kvs q dv)) | none => False) := h
      split at h5
      · rename_i q eq
        obtain ⟨b, vs, rfl, ht, hd⟩ := hk
        cases ks with
        | nil => cases eq
        | cons k0 ks =>
          obtain ⟨rfl, ok⟩ := keys_put hd (show keysOf (k0 :: ks) = some q from eq)
          rcases ht with ht | ⟨ht, _⟩
          · obtain ⟨R2, S2⟩ := R.put (o := .dT (putK ws q z)) hi ha rfl (c1 := .dT (Mi.putG kvs q dv)) rfl ⟨_, upd_same, putT_G h4 ok hz⟩
            exact ⟨_, _, DPut.t h3 (R.sub _ _ ht) (by rw [h4.len, ← hb]; exact h5.1), h5.2, R2, S2⟩
          · have : q.length = 0 := by have := congrArg List.length ht; simpa using this
            obtain ⟨u, ur, e, _⟩ := hd
            rw [ht] at e
            cases e
      · exact h5.elim
    | _ => exact h.elim
  | _ => exact h.elim
theorem put_go {ik iv : IE} {vs : List Nat} {D : Addr} {Nx : Hp → Prop} (h : dB T vs (bdPut (wp Γ ik) (wp Γ iv)) D σ H Nx) : tPut (dZ T W0 (frzT (wp Γ ik))) (dZ T W0 (frzT (wp Γ iv))) D σ H Nx := by
  obtain ⟨ρ, G, c, K, R, w, hq⟩ := h
  refine ⟨ρ, G, _, fun _ _ => False, R.init, w, fun dk y ρ1 G1 H1 S1 R1 hy q1 => ?_, fun _ _ _ _ _ _ _ _ _ z => z.elim⟩
  obtain ⟨R2, S2⟩ := R.carry R1 S1
  refine ⟨ρ1, G1, _, fun _ _ => False, R1, q1, fun dv z ρ3 G3 H3 S3 R3 hz q3 => ?_, fun _ _ _ _ _ _ _ _ _ z => z.elim⟩
  obtain ⟨R4, S4⟩ := R2.carry R3 S3
  have hl : ρ3.length = σ.length := by simpa using R4.len
  obtain ⟨H5, c1, g, q5, R5, S5⟩ := putD_go (i := ρ3.length) R4 get_last (by rw [hl]; exact get_last) (hy.mono S3.gs) hz q3
  rw [set_last] at R5 S5
  obtain ⟨R6, S6⟩ := R5.wipeC vs
  exact ⟨H5, g, hq c1 _ G3 H5 (((S2.trans S4).trans S5).trans S6) R6 q5⟩
/-- the new cell, and what is walked -/
theorem blk_go {ti : Tg} {ii : II} {io : Option IE} {vs : List Nat} {bd : BD} {c0 : Cell} {o0 : HO} {Q : VK} (h0 : ∀ G H a, H a = some o0 → CellAt T H G a c0) (hz : c0.fz = true) {Qp : Res → Env → Prop} {Ep : Xc → Env → Prop} {ρ : Env} {G : Hp} (R : Rep T ρ σ G H)
    (w : wpI Γ ii ρ (fun g ds ρ1 => noOwn ρ1 vs ∧ (∀ i, g = some i → i ∉ vs) ∧ (∀ i ∈ ti.slots, i ∈ vs) ∧ turnsC g ds (dcF ti vs (wpF Γ io) bd) ds (wipeE ρ1 vs) c0 fun c ρ7 => Qp (.own c) (backE ρ1 ρ7 vs)) Ep)
    (hq : ∀ r v ρ' G' H', Step (FpE ρ σ H) (FpR ρ' σ r v H') G H G' H' → RepR T ρ' σ r v G' H' → Qp r ρ' → Q v H') (he : dX T W ρ σ G H Ep) :
    dI T W (wpI Γ ii) σ H fun J H1 => ∀ D, H1 D = none → ∃ W : Nat → Nat → Hp → Prop, (∃ m, W 0 m (upd H1 D o0)) ∧ ∀ i m H, W i m H →
      (J.stop i H ∧ Q (.ref D) H) ∨ (J.go i H ∧ ∃ Nx : Hp → Prop, (∀ H', Nx H' → ∃ m', m' < m ∧ W (i + 1) m' H') ∧ ∀ x H', J.yld i H x H' → dTg T ti x (L2.wipe σ vs) H' fun σ2 H2 => L2.wipe σ2 vs = L2.wipe σ vs ∧ dF T (wpF Γ io) σ2 H2 fun b H3 => if b = true then dB T vs bd D σ2 H3 Nx else Nx H3) := by
  refine ⟨ρ, G, _, Ep, R, w, fun g ds ρ1 G1 H1 J a S1 R1 src wk q1 L nL => ?_, he⟩
  obtain ⟨no, gv, tv, q1⟩ := q1
  have gL : G1 L = none := R1.sub.free nL
  obtain ⟨R2, f2⟩ := R1.wipe vs
  have n3 : New G1 H1 G1 (upd H1 L o0) := New.fresh R1.sub nL
  have R3 := R2.grow n3
  have hc0 : CellAt T (upd H1 L o0) G1 L c0 := h0 G1 _ L upd_same
  have R4 : Rep T (wipeE ρ1 vs ++ [.own c0]) (L2.wipe σ vs ++ [some (.ref L)]) G1 (upd H1 L o0) := by
    refine R3.push hc0 (fun b hb => by rw [Fp.one hz hb]; exact gL) (fun b hb z => ?_)
    rw [Fp.one hz hb] at z
    obtain ⟨i, c, a', h1, h2, h3⟩ := z
    obtain ⟨u, hu, _⟩ := FpE.there R2 ⟨i, c, a', h1, h2, fp_back R2 n3.hs h1 h2 h3⟩
    rw [nL] at hu
    cases hu
  have S4 : Step (FpE ρ σ H) (FpE (wipeE ρ1 vs ++ [.own c0]) (L2.wipe σ vs ++ [some (.ref L)]) (upd H1 L o0)) G H G1 (upd H1 L o0) := by
    refine S1.trans ⟨Same.refl _, fun b e n => absurd e n, fun b o e _ => n3.hs b o e, fun b hb => ?_⟩
    rcases fpE_push R3 hb with hb | hb
    · obtain ⟨i, c, a', h1, h2, h3⟩ := hb
      exact .inl (f2 b ⟨i, c, a', h1, h2, fp_back R2 n3.hs h1 h2 h3⟩)
    · rw [Fp.one hz hb]; exact .inr nL
  have src4 : SrcAt g ds a (wipeE ρ1 vs) (L2.wipe σ vs) := by
    cases g with
    | none => trivial
    | some i =>
      have hi := gv i rfl
      have keep : ∀ {vs : List Nat}, i ∉ vs → (wipeE ρ1 vs)[i]? = ρ1[i]? := fun {vs} => by
        induction vs with
        | nil => intro _; rfl
        | cons v vs ih =>
          intro hn
          simp only [List.mem_cons, not_or] at hn
          unfold wipeE
          rw [List.getElem?_set_ne (fun e => hn.1 e.symm)]
          exact ih hn.2
      exact ⟨by rw [keep hi]; exact src.1, by rw [wipe_out hi]; exact src.2⟩
  refine loopC (Fin := Q (.ref L)) (P := FpE ρ σ H) (wipe_wipe σ vs) wk R4 S4 src4 gv tv q1 fun c ρ2 G2 H2 R5 S5 sg5 t6 => ?_
  have hlen : ρ2.length = (L2.wipe σ vs).length := by simpa using R5.len
  have hl2 : (backE ρ1 ρ2 vs).length = σ.length := by rw [backE_len, hlen, wipe_length]
  have key : ∀ (j : Nat) (e : Cell), (backE ρ1 ρ2 vs ++ [.own c])[j]? = some (.own e) → (ρ2 ++ [.own c])[j]? = some (.own e) ∧ (σ ++ [some (.ref L)])[j]? = (L2.wipe σ vs ++ [some (.ref L)])[j]? := fun j e hj => by
    rcases get_app hj with hj | ⟨q, hj⟩
    · have hjl := (List.getElem?_eq_some_iff.mp hj).1
      rw [hl2] at hjl
      rcases backE_get hj with ⟨h1, h2⟩ | ⟨h1, h2⟩
      · rw [List.getD_eq_getElem?_getD] at h2
        cases e' : ρ1[j]? with
        | none => rw [e'] at h2; cases h2
        | some s =>
          rw [e'] at h2
          have h3 : s = .own e := h2.symm
          rw [h3] at e'
          exact absurd e' (no j h1 e)
      · refine ⟨get_init h2, ?_⟩
        rw [List.getElem?_append_left hjl, List.getElem?_append_left (by rw [wipe_length]; exact hjl), wipe_out h1]
    · cases hj
      subst q
      rw [hl2]
      have e1 : σ.length = (L2.wipe σ vs).length := by rw [wipe_length]
      refine ⟨by rw [e1, ← hlen]; exact get_last, ?_⟩
      rw [get_last, e1, get_last]
  refine hq (.own c) (.ref L) (backE ρ1 ρ2 vs) G2 H2 ⟨S5.gs, S5.gn, S5.fr, fun b hb => S5.fp b (FpE.re (fun j => j) key hb)⟩ ⟨⟨L, rfl⟩, R5.re (by simp [hl2]) (fun j d hj => ?_) (fun j => j) key (fun _ _ _ _ _ _ q => q)⟩ t6
  rcases get_app hj with hj | ⟨_, hj⟩
  · rcases backE_get hj with ⟨h1, h2⟩ | ⟨h1, h2⟩
    · rw [List.getD_eq_getElem?_getD] at h2
      cases e : ρ1[j]? with
      | none => rw [e] at h2; cases h2
      | some s =>
        rw [e] at h2
        have h3 : s = .val d := h2.symm
        rw [h3] at e
        obtain ⟨v, p1, p2⟩ := R1.val j d e
        exact ⟨v, get_init p1, p2.mono sg5⟩
    · obtain ⟨v, p1, p2⟩ := R5.val j d (get_init h2)
      have hjl := (List.getElem?_eq_some_iff.mp h2).1
      rw [List.getElem?_append_left (by omega), wipe_out h1] at p1
      exact ⟨v, get_init p1, p2⟩
  · cases hj
theorem nil_cell (t : Bool) : ∀ (G H : Hp) (a : Addr), H a = some (nilD t) → CellAt T H G a (nilC t) := fun G H a h => by
  cases t with
  | true => exact ⟨[], h, rfl⟩
  | false => exact ⟨[], h, rfl⟩
theorem tBlk_mono {t : Bool} {wi : TI} {g : TG} {tt : TT} {tb tb' : TB} {vs : List Nat} {Q : VK} (hw : ∀ {R R' : It → Hp → Prop}, (∀ J H, R J H → R' J H) → wi σ H R → wi σ H R') (hg : ∀ {v σ H} {Q Q' : L2.St → Hp → Prop}, (∀ σ H, Q σ H → Q' σ H) → g v σ H Q → g v σ H Q')
    (ht : ∀ {σ H} {Q Q' : Bool → Hp → Prop}, (∀ b H, Q b H → Q' b H) → tt σ H Q → tt σ H Q') (hb : ∀ D σ H Nx, tb D σ H Nx → tb' D σ H Nx) (h : tBlk t wi g tt tb vs σ H Q) : tBlk t wi g tt tb' vs σ H Q := by
  refine hw (fun J H1 h1 D hD => ?_) h
  obtain ⟨W, w0, turn⟩ := h1 D hD
  refine ⟨W, w0, fun i m H hW => ?_⟩
  rcases turn i m H hW with h2 | ⟨go, Nx, hn, st⟩
  · exact .inl h2
  · refine .inr ⟨go, Nx, hn, fun x H' y => hg (fun σ2 H2 ⟨e, h3⟩ => ⟨e, ht (fun b H3 h4 => ?_) h3⟩) (st x H' y)⟩
    cases b with
    | true => exact iteT (hb _ _ _ _ (by simpa using h4))
    | false => exact iteF (by simpa using h4)
theorem dI_mono {w : WI} {R R' : It → Hp → Prop} (k : ∀ J H, R J H → R' J H) (h : dI T W w σ H R) : dI T W w σ H R' := by
  obtain ⟨ρ, G, Qp, Ep, R0, hw, hq, he⟩ := h
  exact ⟨ρ, G, Qp, Ep, R0, hw, fun g ds ρ' G' H' J a S R1 s wk q => k _ _ (hq g ds ρ' G' H' J a S R1 s wk q), he⟩
theorem dTg_mono {ti : Tg} {v : V} {Q Q' : L2.St → Hp → Prop} (k : ∀ σ H, Q σ H → Q' σ H) (h : dTg T ti v σ H Q) : dTg T ti v σ H Q' := by
  obtain ⟨ρ, G, d, ρ', R, hd, hb, hq⟩ := h
  exact ⟨ρ, G, d, ρ', R, hd, hb, fun σ' R' s l f => k _ _ (hq σ' R' s l f)⟩
theorem dF_mono {w : Env → (Bool → Env → Prop) → Prop} {Q Q' : Bool → Hp → Prop} (k : ∀ b H, Q b H → Q' b H) (h : dF T w σ H Q) : dF T w σ H Q' := by
  obtain ⟨ρ, G, Qp, R, hw, hq⟩ := h
  exact ⟨ρ, G, Qp, R, hw, fun b ρ' G' H' S R' q => k _ _ (hq b ρ' G' H' S R' q)⟩
/-- what a dict comprehension's parts need -/
structure Dcp (X : Cx) (T : Tx) (W : WX) (Γ : Nat → FS) (kx vx tg iter : Expr) (ifs : List Expr) (scope : Scope) (own : List (Str × Nat)) (ti : Tg) (ii : II) (io : Option IE) (ik iv : IE) : Prop where
  hi : SI X T W Γ tg iter ii
  ok : BlkOk X.N X.env.scope scope own
  hg : ∀ (s : Shared) (H : Hp) (C : Addr) (cl : List (Str × Addr)) (fp : List Addr), PG (X.blk s H scope (compEnvC scope cl C X.env) fp) tg (dTg T ti)
  ht : ∀ (s : Shared) (H : Hp) (C : Addr) (cl : List (Str × Addr)) (fp : List Addr), SF (X.blk s H scope (compEnvC scope cl C X.env) fp) T Γ ifs io
  hk : ∀ (s : Shared) (H : Hp) (C : Addr) (cl : List (Str × Addr)) (fp : List Addr), SE (X.blk s H scope (compEnvC scope cl C X.env) fp) T W0 Γ kx ik
  hv : ∀ (s : Shared) (H : Hp) (C : Addr) (cl : List (Str × Addr)) (fp : List Addr), SE (X.blk s H scope (compEnvC scope cl C X.env) fp) T W0 Γ vx iv
  hs : ∀ x, foldedSetIterable iter X.env x = pure x
structure Sec (X : Cx) (T : Tx) (Γ : Nat → FS) (tg iter : Expr) (ifs : List Expr) (scope : Scope) (own : List (Str × Nat)) (ti : Tg) (ii : II) (io : Option IE) (vs1 : List Nat) : Prop where
  hw : ∀ i ∈ vs1, i ∈ own.map (·.2)
  hi : ∀ (s : Shared) (H : Hp) (C : Addr) (cl : List (Str × Addr)) (fp : List Addr), SI (X.blk s H scope (compEnvC scope cl C X.env) fp) T W0 Γ tg iter ii
  hg : ∀ (s : Shared) (H : Hp) (C : Addr) (cl : List (Str × Addr)) (fp : List Addr), PG (X.blk s H scope (compEnvC scope cl C X.env) fp) tg (dTg T ti)
  ht : ∀ (s : Shared) (H : Hp) (C : Addr) (cl : List (Str × Addr)) (fp : List Addr), SF (X.blk s H scope (compEnvC scope cl C X.env) fp) T Γ ifs io
  hs : ∀ env x, foldedSetIterable iter env x = pure x
variable {kx vx elt tg iter tg1 iter1 : Expr} {ifs ifs1 : List Expr} {scope : Scope} {own : List (Str × Nat)} {ti ti1 : Tg} {ii ii1 : II} {io io1 : Option IE} {ik iv ie : IE} {vs1 : List Nat} {pos : Pos}
theorem dcp_go {t : Bool} {vs : List Nat} {Q : VK} (h : dG T W (wp Γ (.dcp t ti ii io ik iv vs)) σ H Q) : tBlk t (dI T W (wpI Γ ii)) (dTg T ti) (dF T (wpF Γ io)) (tPut (dZ T W0 (frzT (wp Γ ik))) (dZ T W0 (frzT (wp Γ iv)))) vs σ H Q := by
  obtain ⟨ρ, G, Qp, Ep, R, w, hq, he⟩ := h
  exact tBlk_mono (tb := dB T _ (bdPut (wp Γ ik) (wp Γ iv))) dI_mono dTg_mono dF_mono (fun D σ H Nx q => put_go q) (blk_go (nil_cell t) (by cases t <;> rfl) R w hq he)
theorem dc2_go {t : Bool} {vs : List Nat} {Q : VK} (h : dG T W (wp Γ (.dc2 t ti ii io ti1 ii1 io1 ik iv vs vs1)) σ H Q) :
    tBlk t (dI T W (wpI Γ ii)) (dTg T ti) (dF T (wpF Γ io)) (tInn (dI T W0 (wpI Γ ii1)) (dTg T ti1) (dF T (wpF Γ io1)) (tPut (dZ T W0 (frzT (wp Γ ik))) (dZ T W0 (frzT (wp Γ iv)))) vs1) vs σ H Q := by
  obtain ⟨ρ, G, Qp, Ep, R, w, hq, he⟩ := h
  refine tBlk_mono (tb := dB T _ (bdInn ti1 vs vs1 (wpI Γ ii1) (wpF Γ io1) (bdPut (wp Γ ik) (wp Γ iv)))) dI_mono dTg_mono dF_mono (fun D σ H Nx q => ?_) (blk_go (nil_cell t) (by cases t <;> rfl) R w hq he)
  refine dI_mono (fun J H1 ⟨W, w0, turn⟩ => ⟨W, w0, fun i m H hW => ?_⟩) (inn_go q)
  rcases turn i m H hW with h2 | ⟨go, N1, hn, st⟩
  · exact .inl h2
  · refine .inr ⟨go, N1, hn, fun x H' y => dTg_mono (fun σ2 H2 ⟨e, h3⟩ => ⟨e, dF_mono (fun b H3 h4 => ?_) h3⟩) (st x H' y)⟩
    cases b with
    | true => exact iteT (put_go (by simpa using h4))
    | false => exact iteF (by simpa using h4)
theorem se_dcp (t : Bool) (hu : X.A.units + 65 < cLine) (hc : X.calm = true) (hN : X.N.Nodup) (h : Dcp X T W Γ kx vx tg iter ifs scope own ti ii io ik iv) : SE X T W Γ (.DictComp kx vx [⟨tg, iter, ifs, 0⟩] scope pos) (.dcp t ti ii io ik iv (own.map (·.2))) :=
  pe_weak (pe_dcG t (by omega) hc hN h.hi h.ok h.hg h.ht (fun s H C cl fp => pe_frz (h.hk s H C cl fp)) (fun s H C cl fp => pe_frz (h.hv s H C cl fp)) h.hs) fun σ H Q q => dcp_go q
theorem se_dc2 (t : Bool) (hu : X.A.units + 65 < cLine) (hc : X.calm = true) (hN : X.N.Nodup) (h : Dcp X T W Γ kx vx tg iter ifs scope own ti ii io ik iv) (h1 : Sec X T Γ tg1 iter1 ifs1 scope own ti1 ii1 io1 vs1) :
    SE X T W Γ (.DictComp kx vx [⟨tg, iter, ifs, 0⟩, ⟨tg1, iter1, ifs1, 0⟩] scope pos) (.dc2 t ti ii io ti1 ii1 io1 ik iv (own.map (·.2)) vs1) :=
  pe_weak (pe_dc2 t (by omega) hc hN h.hi h.ok h1.hw h.hg h.ht h1.hi h1.hg h1.ht (fun s H C cl fp => pe_frz (h.hk s H C cl fp)) (fun s H C cl fp => pe_frz (h.hv s H C cl fp)) h.hs h1.hs) fun σ H Q q => dc2_go q
/-! into a local name -/
theorem ss_asgDc (t : Bool) {i : Nat} {y : Str} {py spos : Pos} (hA : A i) (hu : X.A.units + 65 < cLine) (hc : X.calm = true) (hN : X.N.Nodup) (hy : X.N[i]? = some y) (hyl : X.env.scope.names.lookup y = some .local) (hsw : swapsWith (.DictComp kx vx [⟨tg, iter, ifs, 0⟩] scope pos) (some (.Name y py)) spos.line X.env = pure true)
    (h : Dcp X T W Γ kx vx tg iter ifs scope own ti ii io ik iv) : SS X T W A Γ (.Assign [.Name y py] (.DictComp kx vx [⟨tg, iter, ifs, 0⟩] scope pos) spos) (.asg (.name i) (.dcp t ti ii io ik iv (own.map (·.2)))) ∧
      SS X T W A Γ (.Assign [.Name y py] (.DictComp kx vx [⟨tg, iter, ifs, 0⟩] scope pos) spos) (.asg (.name i) (.frz (.dcp t ti ii io ik iv (own.map (·.2))))) := by
  have p := ps_lockn (ps_dcG t (by omega) hc hN h.hi h.ok h.hg h.ht (fun s H C cl fp => pe_frz (h.hk s H C cl fp)) (fun s H C cl fp => pe_frz (h.hv s H C cl fp)) h.hs hy hyl hsw)
  exact ⟨ps_weak p fun Q σ H q => dcp_go (asg_goL hA q), ps_weak p fun Q σ H q => dcp_go (asg_goF (w := wp Γ (.dcp t ti ii io ik iv (own.map (·.2)))) hA q)⟩
theorem ss_asgDc2 (t : Bool) {i : Nat} {y : Str} {py spos : Pos} (hA : A i) (hu : X.A.units + 65 < cLine) (hc : X.calm = true) (hN : X.N.Nodup) (hy : X.N[i]? = some y) (hyl : X.env.scope.names.lookup y = some .local) (hsw : swapsWith (.DictComp kx vx [⟨tg, iter, ifs, 0⟩, ⟨tg1, iter1, ifs1, 0⟩] scope pos) (some (.Name y py)) spos.line X.env = pure true)
    (h : Dcp X T W Γ kx vx tg iter ifs scope own ti ii io ik iv) (h1 : Sec X T Γ tg1 iter1 ifs1 scope own ti1 ii1 io1 vs1) :
    SS X T W A Γ (.Assign [.Name y py] (.DictComp kx vx [⟨tg, iter, ifs, 0⟩, ⟨tg1, iter1, ifs1, 0⟩] scope pos) spos) (.asg (.name i) (.dc2 t ti ii io ti1 ii1 io1 ik iv (own.map (·.2)) vs1)) ∧
      SS X T W A Γ (.Assign [.Name y py] (.DictComp kx vx [⟨tg, iter, ifs, 0⟩, ⟨tg1, iter1, ifs1, 0⟩] scope pos) spos) (.asg (.name i) (.frz (.dc2 t ti ii io ti1 ii1 io1 ik iv (own.map (·.2)) vs1))) := by
  have p := ps_lockn (ps_dc2 t (by omega) hc hN h.hi h.ok h1.hw h.hg h.ht h1.hi h1.hg h1.ht (fun s H C cl fp => pe_frz (h.hk s H C cl fp)) (fun s H C cl fp => pe_frz (h.hv s H C cl fp)) h.hs h1.hs hy hyl hsw)
  exact ⟨ps_weak p fun Q σ H q => dc2_go (asg_goL hA q), ps_weak p fun Q σ H q => dc2_go (asg_goF (w := wp Γ (.dc2 t ti ii io ti1 ii1 io1 ik iv (own.map (·.2)) vs1)) hA q)⟩
/-! ### [.. for .. for ..] -/
def tApp (te : TE) : TB := fun D σ H N => te σ H fun y H1 => ∃ acc, H1 D = some (.lst acc) ∧ acc.length < sizeLine ∧ N (upd H1 D (.lst (acc ++ [y])))
theorem app_go {vs : List Nat} {D : Addr} {Nx : Hp → Prop} (h : dB T vs (bdApp (wp Γ ie)) D σ H Nx) : tApp (dZ T W0 (frzT (wp Γ ie))) D σ H Nx := by
  obtain ⟨ρ, G, c, K, R, w, hq⟩ := h
  refine ⟨ρ, G, _, fun _ _ => False, R.init, w, fun dk y ρ1 G1 H1 S1 R1 hy q1 => ?_, fun _ _ _ _ _ _ _ _ _ z => z.elim⟩
  obtain ⟨R2, S2⟩ := R.carry R1 S1
  have hl : ρ1.length = σ.length := by simpa using R2.len
  have hb : (big : Nat) = sizeLine := big_eq
  cases c with
  | lst acc =>
    have q2 : acc.length < big ∧ K (.lst (acc ++ [dk])) (wipeE ρ1 vs) := q1
    obtain ⟨al, h1, us, h2, h3⟩ := R2.own ρ1.length (.lst acc) get_last
    rw [hl, get_last] at h1
    cases h1
    obtain ⟨R3, S3⟩ := R2.put (o := .lst (us ++ [y])) get_last (by rw [hl]; exact get_last) rfl (c1 := .lst (acc ++ [dk])) rfl ⟨us ++ [y], upd_same, h3.append (Dps.one hy)⟩
    rw [set_last] at R3 S3
    obtain ⟨R4, S4⟩ := R3.wipeC vs
    exact ⟨us, h2, by rw [h3.len, ← hb]; exact q2.1, hq _ _ G1 _ ((S2.trans S3).trans S4) R4 q2.2⟩
  | _ => exact q1.elim
theorem lc2_go {vs : List Nat} {Q : VK} (h : dG T W (wp Γ (.lc2 ti ii io ti1 ii1 io1 ie vs vs1)) σ H Q) :
    tLc2 (dI T W (wpI Γ ii)) (dTg T ti) (dF T (wpF Γ io)) (dI T W0 (wpI Γ ii1)) (dTg T ti1) (dF T (wpF Γ io1)) (dZ T W0 (frzT (wp Γ ie))) vs vs1 σ H Q := by
  obtain ⟨ρ, G, Qp, Ep, R, w, hq, he⟩ := h
  refine dI_mono (fun J H1 h1 D hD => ?_) (blk_go (c0 := .lst []) (o0 := .lst []) (fun G H a h => ⟨[], h, rfl⟩) rfl R w hq he)
  obtain ⟨W, w0, turn⟩ := h1 D hD
  refine ⟨W, w0, fun i m H hW => ?_⟩
  rcases turn i m H hW with h2 | ⟨go, Nx, hn, st⟩
  · exact .inl h2
  · refine .inr ⟨go, Nx, hn, fun x H' y => dTg_mono (fun σ2 H2 ⟨e, h3⟩ => ⟨e, dF_mono (fun b H3 h4 => ?_) h3⟩) (st x H' y)⟩
    cases b with
    | false => exact iteF (by simpa using h4)
    | true =>
      have h5 : dB T vs (bdInn ti1 vs vs1 (wpI Γ ii1) (wpF Γ io1) (bdApp (wp Γ ie))) D σ2 H3 Nx := by simpa using h4
      refine iteT (dI_mono (fun J1 H4 ⟨W1, w1, turn1⟩ => ⟨W1, w1, fun j k H hW1 => ?_⟩) (inn_go h5))
      rcases turn1 j k H hW1 with h6 | ⟨go1, N1, hn1, st1⟩
      · exact .inl h6
      · refine .inr ⟨go1, N1, hn1, fun x H' y => dTg_mono (fun σ2 H2 ⟨e, h7⟩ => ⟨e, dF_mono (fun b H3 h8 => ?_) h7⟩) (st1 x H' y)⟩
        cases b with
        | true => exact iteT (app_go (by simpa using h8))
        | false => exact iteF (by simpa using h8)
theorem se_lc2 (hc : X.calm = true) (hN : X.N.Nodup) (h : Lcp X T W Γ elt tg iter ifs scope own ti ii io ie) (h1 : Sec X T Γ tg1 iter1 ifs1 scope own ti1 ii1 io1 vs1) :
    SE X T W Γ (.ListComp elt [⟨tg, iter, ifs, 0⟩, ⟨tg1, iter1, ifs1, 0⟩] scope pos) (.lc2 ti ii io ti1 ii1 io1 ie (own.map (·.2)) vs1) :=
  pe_weak (pe_lc2 hc hN h.hi h.ok h1.hw h.hg h.ht h1.hi h1.hg h1.ht (fun s H C cl fp => pe_frz (h.he s H C cl fp)) h.hs h1.hs) fun σ H Q q => lc2_go q
theorem ss_asgLc2 {i : Nat} {y : Str} {py spos : Pos} (hA : A i) (hc : X.calm = true) (hN : X.N.Nodup) (hy : X.N[i]? = some y) (hyl : X.env.scope.names.lookup y = some .local) (hsw : swapsWith (.ListComp elt [⟨tg, iter, ifs, 0⟩, ⟨tg1, iter1, ifs1, 0⟩] scope pos) (some (.Name y py)) spos.line X.env = pure true)
    (h : Lcp X T W Γ elt tg iter ifs scope own ti ii io ie) (h1 : Sec X T Γ tg1 iter1 ifs1 scope own ti1 ii1 io1 vs1) :
    SS X T W A Γ (.Assign [.Name y py] (.ListComp elt [⟨tg, iter, ifs, 0⟩, ⟨tg1, iter1, ifs1, 0⟩] scope pos) spos) (.asg (.name i) (.lc2 ti ii io ti1 ii1 io1 ie (own.map (·.2)) vs1)) ∧
      SS X T W A Γ (.Assign [.Name y py] (.ListComp elt [⟨tg, iter, ifs, 0⟩, ⟨tg1, iter1, ifs1, 0⟩] scope pos) spos) (.asg (.name i) (.frz (.lc2 ti ii io ti1 ii1 io1 ie (own.map (·.2)) vs1))) := by
  have p := ps_lockn (ps_setLc2 hc hN hy hyl hsw h.hi h.ok h1.hw h.hg h.ht h1.hi h1.hg h1.ht (fun s H C cl fp => pe_frz (h.he s H C cl fp)) h.hs h1.hs)
  exact ⟨ps_weak p fun Q σ H q => lc2_go (asg_goL hA q), ps_weak p fun Q σ H q => lc2_go (asg_goF (w := wp Γ (.lc2 ti ii io ti1 ii1 io1 ie (own.map (·.2)) vs1)) hA q)⟩
end
end Mi
namespace Mi
open PySem PySem.Spec PyProof.Rows L2
section
variable {X : Cx} {T : Tx} {W : WX} {Γ : Nat → FS} {A : Nat → Prop} {ρ ρ' : Env} {σ σ' : L2.St} {G G' H H' : Hp}
/-! ### o[k] = v -/
theorem set_any (hu : X.A.units + 1 < cLine) : PSet X (fun o i v H Q => rSetL o i v H Q ∨ ∃ a H4, o = .ref a ∧ DPut H a i v H4 ∧ Q H4) := by
  intro pins s σ H o i v ov iv u Q I ro ri rv h
  rcases h with h | ⟨a, H4, rfl, g, q⟩
  · exact set_list pins s σ H o i v ov iv u Q I ro ri rv h
  · obtain rfl : ov = Value.ref a := ro
    exact d_setItem hu I g ri rv fun s' I' => ⟨H4, I', q⟩
theorem ixG_N {n : Nat} {i : Int} : ixN n i = ixG n i := by
  unfold ixN ixG
  rfl
theorem ss_sti {i : Nat} {x : Str} {k v : Expr} {ik iv : IE} {px p pos : Pos} (hu : X.A.units + 65 < cLine) (hN : X.N[i]? = some x) (hx : Vis X.env.scope x) (hd : (x == ("__debug__" : Str)) = false) (hcd : (x == ("__classdict__" : Str)) = false) (hk : SE X T W Γ k ik) (hv : SE X T W Γ v iv)
    (ha : ∀ v, assign (.Subscript (.Name x px) k p) X.env v = (do
      let ov ← holding [v] (eval (.Name x px) X.env)
      let iv ← holding [v, ov] (eval k X.env)
      standAt p
      holding [v, ov, iv] (setItem ov iv v)
      release [v, ov, iv] []))
    (hs : swapsWithSole [.Subscript (.Name x px) k p] v pos.line X.env = pure false) (hw : swappedStores [.Subscript (.Name x px) k p] v X.env = pure none) (h1 : (assignEach [.Subscript (.Name x px) k p] X.env).map (·.2) = [assign (.Subscript (.Name x px) k p) X.env]) :
    SS X T W A Γ (.Assign [.Subscript (.Name x px) k p] v pos) (.sti i ik iv) := by
  refine ps_weak (ps_asg (pe_frz hv) (pg_sub (pe_var hN hx hd hcd) (pe_frz hk) (set_any (by omega)) ha) hs hw h1) fun Q σ H ⟨ρ, G, K, R, w, d⟩ => ?_
  refine ⟨ρ, G, _, K.ex, R, w, fun dv z ρ1 G1 H1 S1 R1 hz q1 => ?_, d.dx⟩
  have q2 : (match ρ1[i]? with
    | some (.own _) => frzT (wp Γ ik) ρ1 (fun x ρ4 => match ρ4[i]? with
      | some (.own c) => putC c (rdR ρ4 x) dv fun c1 => K.nx (ρ4.set i (.own c1))
      | _ => False) K.ex
    | _ => False) := q1
  split at q2
  · rename_i c0 e0
    obtain ⟨a, ha, _⟩ := R1.own i _ e0
    refine ⟨_, ha, ρ1, G1, _, K.ex, R1, q2, fun dk y ρ3 G3 H3 S3 R3 hy q3 => ?_, d.dx.next S1⟩
    have q4 : (match ρ3[i]? with
      | some (.own c) => putC c dk dv fun c1 => K.nx (ρ3.set i (.own c1))
      | _ => False) := q3
    split at q4
    · rename_i c e3
      have hz3 := hz.mono S3.gs
      have fin : ∀ {c1 : Cell} {H5 : Hp}, Rep T (ρ3.set i (.own c1)) σ G3 H5 → Step (FpE ρ3 σ H3) (FpE (ρ3.set i (.own c1)) σ H5) G3 H3 G3 H5 → K.nx (ρ3.set i (.own c1)) → Q.nx σ H5 := fun {c1 H5} R5 S5 q5 => d.nx _ σ G3 H5 .refl ((S1.trans S3).trans S5) R5 q5
      have other : putD c dk dv (fun c1 => K.nx (ρ3.set i (.own c1))) → ∃ a_1 H4, V.ref a = .ref a_1 ∧ DPut H3 a_1 y z H4 ∧ Q.nx σ H4 := fun hp => by
        obtain ⟨H5, c1, g, q5, R5, S5⟩ := putD_go R3 e3 ha hy hz3 hp
        exact ⟨a, H5, rfl, g, fin R5 S5 q5⟩
      cases c with
      | lst xs =>
        obtain ⟨a2, h1, ws, h2, h3⟩ := R3.own i _ e3
        rw [ha] at h1
        cases h1
        cases dk with
        | int n =>
          cases hy
          have q5 : (match ixG xs.length n with | some j => K.nx (ρ3.set i (.own (.lst (xs.set j dv)))) | none => False) := q4
          split at q5
          · rename_i j ej
            obtain ⟨R5, S5⟩ := R3.put (o := .lst (ws.set j z)) e3 ha rfl (c1 := .lst (xs.set j dv)) rfl ⟨_, upd_same, h3.set j hz3⟩
            exact .inl ⟨a, ws, n, j, rfl, rfl, h2, by rw [h3.len, ixG_N]; exact ej, fin R5 S5 q5⟩
          · exact q5.elim
        | _ => exact q4.elim
      | dK kvs => exact .inr (other q4)
      | dT kvs => exact .inr (other q4)
      | obj _ _ => exact q4.elim
      | draw => exact q4.elim
    · exact q4.elim
  · exact q2.elim
/-! ### o.f = v -/
theorem DpF.put {G : Hp} : ∀ {fs : List (Str × D)} {ws : List (Str × V)} {f : Str} {d : D} {v : V}, DpF T G fs ws → Dp T G d v → (fs.map (·.1)).Nodup → DpF T G (Mi.putG fs f d) (putF f v ws) := by
  intro fs
  induction fs with
  | nil => intro ws f d v h hv _; cases h; exact ⟨v, [], rfl, hv, rfl⟩
  | cons p fs ih =>
    obtain ⟨g, e⟩ := p
    rintro ws f d v ⟨u, ur, rfl, h1, h2⟩ hv nd
    simp only [List.map_cons, List.nodup_cons] at nd
    unfold putF
    by_cases q : g = f
    · subst q
      rw [if_pos rfl]
      have none2 : ∀ {fs : List (Str × D)}, g ∉ fs.map (·.1) → (fs.map fun kv => if kv.1 = g then (kv.1, d) else kv) = fs := fun {fs} => by
        induction fs with
        | nil => intro _; rfl
        | cons p fs ih =>
          intro hn
          simp only [List.map_cons, List.mem_cons, not_or] at hn
          rw [List.map_cons, ih hn.2, if_neg (fun z : p.1 = g => hn.1 z.symm)]
      unfold Mi.putG
      rw [if_pos (by simp)]
      simp only [List.map_cons, if_pos]
      exact ⟨v, ur, rfl, hv, by rw [none2 nd.1]; exact h2⟩
    · rw [if_neg q]
      have e2 : Mi.putG ((g, e) :: fs) f d = (g, e) :: Mi.putG fs f d := by
        unfold Mi.putG
        have : (((g, e) :: fs).any fun kv => decide (kv.1 = f)) = (fs.any fun kv => decide (kv.1 = f)) := by simp [q]
        rw [this]
        split
        · simp [q]
        · rfl
      rw [e2]
      exact ⟨u, _, rfl, h1, ih h2 hv nd.2⟩
theorem ss_sta {i : Nat} {x : Str} {f : Str} {v : Expr} {iv : IE} {c : Nat} {px p pos : Pos} (hK : X.K = T.K) (hN : X.N[i]? = some x) (hx : Vis X.env.scope x) (hd : (x == ("__debug__" : Str)) = false) (hcd : (x == ("__classdict__" : Str)) = false) (hv : SE X T W Γ v iv) (hf : f ∈ T.na c)
    (hs : swapsWith v (some (.Attribute (.Name x px) f p)) pos.line X.env = pure false) : SS X T W A Γ (.Assign [.Attribute (.Name x px) f p] v pos) (.sta i c f iv) := by
  refine ps_weak (ps_fld (pe_var hN hx hd hcd) (pe_frz hv) hs) fun Q σ H ⟨ρ, G, K, R, w, d⟩ => ?_
  refine ⟨ρ, G, _, K.ex, R, w, fun dv z ρ1 G1 H1 S1 R1 hz q1 => ?_, d.dx⟩
  have q2 : (match ρ1[i]? with
    | some (.own (.obj c2 fs)) => (c2 = c ∧ fs.length < 900 ∧ (fs.map (·.1)).Nodup) ∧ K.nx (ρ1.set i (.own (.obj c (Mi.putG fs f dv))))
    | _ => False) := q1
  split at q2
  · rename_i c2 fs e1
    obtain ⟨⟨rfl, hl, nd⟩, q2⟩ := q2
    obtain ⟨a, ha, dx, ws, h1, h2, h3⟩ := R1.own i _ e1
    refine ⟨_, ha, a, T.cl c2, dx, ws, rfl, h1, by rw [hK]; exact h2.1.cl, by rw [hK]; exact h2.1.na f hf, ?_, ?_⟩
    · have : ∀ {fs : List (Str × D)} {ws : List (Str × V)}, DpF T G1 fs ws → ws.length = fs.length := fun {fs} => by
        induction fs with
        | nil => intro ws h; cases h; rfl
        | cons p fs ih => rintro ws ⟨u, ur, rfl, h1, h2⟩; simp [ih h2]
      rw [this h3]; omega
    · have hm : ∀ p ∈ Mi.putG fs f dv, p.1 ∈ T.na c2 := fun p hp => by
        unfold Mi.putG at hp
        split at hp
        · obtain ⟨q, hq, e⟩ := List.mem_map.mp hp
          split at e
          · subst e; exact h2.2 q hq
          · subst e; exact h2.2 q hq
        · rcases List.mem_append.mp hp with hp | hp
          · exact h2.2 p hp
          · simp at hp; subst hp; exact hf
      obtain ⟨R5, S5⟩ := R1.put (o := .ins (T.cl c2) dx (putF f z ws)) e1 ha rfl (c1 := .obj c2 (Mi.putG fs f dv)) rfl ⟨dx, _, upd_same, ⟨h2.1, hm⟩, h3.put hz nd⟩
      exact d.nx _ σ G1 _ .refl (S1.trans S5) R5 q2
  · exact q2.elim
/-! ### displays of dicts -/
inductive PairsAt (T : Tx) (G : Hp) : List D → List (V × V) → Prop
  | nil : PairsAt T G [] []
  | cons {k d : D} {x y : V} {ds : List D} {ps : List (V × V)} : Dp T G k x → Dp T G d y → PairsAt T G ds ps → PairsAt T G (k :: d :: ds) ((x, y) :: ps)
def PPz (T : Tx) (W : WX) (Γ : Nat → FS) (irs : List IE) (trs : List (TE × TE)) : Prop := ∀ (σ : L2.St) (H : Hp) (ρ : Env) (G : Hp) (Qp : List D → Env → Prop) (Ep : Xc → Env → Prop) (Q : List (V × V) → Hp → Prop), Rep T ρ σ G H → wpZ Γ irs ρ Qp Ep → dX T W ρ σ G H Ep →
  (∀ ds ps ρ' G' H', Step (FpE ρ σ H) (FpE ρ' σ H') G H G' H' → Rep T ρ' σ G' H' → PairsAt T G' ds ps → Qp ds ρ' → Q ps H') → tPairs trs σ H Q
structure SDp (X : Cx) (T : Tx) (W : WX) (Γ : Nat → FS) (pos : Pos) (keys : List (Option Expr)) (values : List Expr) (irs : List IE) : Prop where
  ex : ∃ trs, PPs X pos keys values trs ∧ PPz T W Γ irs trs
  all : keys.all (·.isSome) = true
  len : keys.length = values.length
theorem sd_nil {pos : Pos} : SDp X T W Γ pos [] [] [] := ⟨⟨[], pps_nil, fun σ H ρ G Qp Ep Q R w he k => k [] [] ρ G H (Step.refl fun _ h => h) R .nil w⟩, rfl, rfl⟩
theorem PairsAt.mono : ∀ {ds : List D} {ps : List (V × V)}, Same G G' → PairsAt T G ds ps → PairsAt T G' ds ps
  | _, _, _, .nil => .nil
  | _, _, s, .cons a b c => .cons (a.mono s) (b.mono s) (c.mono s)
theorem sd_cons {pos : Pos} {k v : Expr} {keys : List (Option Expr)} {values : List Expr} {ik iv : IE} {irs : List IE} (hk : SE X T W Γ k ik) (hv : SE X T W Γ v iv) (h : SDp X T W Γ pos keys values irs) : SDp X T W Γ pos (some k :: keys) (v :: values) (ik :: iv :: irs) := by
  obtain ⟨⟨trs, h1, h2⟩, h3, h4⟩ := h
  refine ⟨⟨_, pps_cons (pe_frz hk) (pe_frz hv) h1, fun σ H ρ G Qp Ep Q R w he kk => ?_⟩, by simpa using h3, by simp [h4]⟩
  refine ⟨ρ, G, _, Ep, R, w, fun dk x ρ1 G1 H1 S1 R1 hx q1 => ?_, he⟩
  refine ⟨ρ1, G1, _, Ep, R1, q1, fun dv y ρ2 G2 H2 S2 R2 hy q2 => ?_, he.next S1⟩
  refine h2 σ H2 ρ2 G2 _ Ep _ R2 q2 (he.next (S1.trans S2)) fun ds ps ρ3 G3 H3 S3 R3 pa q3 => ?_
  exact kk _ _ ρ3 G3 H3 ((S1.trans S2).trans S3) R3 (.cons (hx.mono (S2.gs.trans S3.gs)) (hy.mono S3.gs) pa) q3
theorem pairs_kv : ∀ {ds : List D} {ps : List (V × V)} {kvs : List (Ky × D)}, PairsAt T G ds ps → pairsG ds = some kvs → ∃ ws : List (Key × V), ps = ws.map (fun kv => (kV kv.1, kv.2)) ∧ DpK T G kvs ws
  | _, _, _, .nil, e => by cases e; exact ⟨[], rfl, rfl⟩
  | _, _, kvs, @PairsAt.cons _ _ k d x y ds ps h1 h2 h3, e => by
    have e2 : (match keyOf k, pairsG ds with | some q, some ps => some ((q, d) :: ps) | _, _ => none) = some kvs := e
    split at e2
    · rename_i q r e3 e4
      cases e2
      obtain ⟨ws, rfl, h5⟩ := pairs_kv h3 e4
      obtain ⟨rfl, ok⟩ := key_put h1 e3
      exact ⟨(q, y) :: ws, rfl, y, ws, rfl, ⟨ok, h2⟩, h5⟩
    · cases e2
theorem merge_G : ∀ {more : List (Ky × D)} {ms : List (Key × V)} {kvs : List (Ky × D)} {ws : List (Key × V)}, DpK T G more ms → DpK T G kvs ws → DpK T G (more.foldl (fun a p => Mi.putG a p.1 p.2) kvs) (mergeK ws ms)
  | [], _, _, _, h, k => by cases h; exact k
  | (q, d) :: more, _, kvs, ws, ⟨v, vr, h1, h2, h3⟩, k => by
    subst h1
    show DpK T G (more.foldl (fun a p => Mi.putG a p.1 p.2) (Mi.putG kvs q d)) (mergeK (putK ws q v) vr)
    exact merge_G (more := more) h3 (putK_G k h2.1 h2.2)
theorem se_dct {pos : Pos} {keys : List (Option Expr)} {values : List Expr} {irs : List IE} (h0 : keys ≠ []) (h15 : keys.length ≤ 15) (h : SDp X T W Γ pos keys values irs) : SE X T W Γ (.Dict keys values pos) (.dct false irs) := by
  obtain ⟨⟨trs, h1, h2⟩, h3, h4⟩ := h
  refine pe_weak (pe_disp h1 h3 h4 h0 h15) fun σ H Q ⟨ρ, G, Qp, Ep, R, w, hq, he⟩ => ?_
  intro p np
  have n1 : New G H G (upd H p (.dK [])) := New.fresh R.sub np
  have R1 := R.grow n1
  have S1 := R.growStep n1
  obtain ⟨R2', S2'⟩ := R.vr (r := .own (.dK [])) (v := .ref p) (G' := G) (H' := upd H p (.dK [])) ⟨n1, rfl, p, rfl, np, R.sub.free np, [], upd_same, rfl⟩
  obtain ⟨_, R2⟩ := R2'
  refine h2 σ _ ρ G _ Ep _ R1 w (he.next S1) fun ds ps ρ3 G3 H3 S3 R3 pa q3 => ?_
  obtain ⟨R4, S4⟩ := R2.carry R3 S3
  have hl : ρ3.length = σ.length := by simpa using R4.len
  obtain ⟨a, e1, ws0, e2, e3⟩ := R4.own ρ3.length _ get_last
  rw [hl, get_last] at e1
  cases e1
  cases e3
  have q4 : (match pairsG ds with | some ps => ps.length ≤ 15 ∧ Qp (.own (.dK (ps.foldl (fun a p => Mi.putG a p.1 p.2) []))) ρ3 | none => False) := q3
  split at q4
  · rename_i kvs ek
    obtain ⟨ws, rfl, hw⟩ := pairs_kv pa ek
    refine ⟨e2, ws, rfl, by rw [hw.len]; exact q4.1, ?_⟩
    obtain ⟨R5, S5⟩ := R4.put (o := .dK (mergeK [] ws)) get_last (by rw [hl]; exact get_last) rfl (c1 := .dK (kvs.foldl (fun a p => Mi.putG a p.1 p.2) [])) rfl ⟨_, upd_same, merge_G (kvs := []) (ws := []) hw rfl⟩
    rw [set_last] at R5 S5
    exact hq (.own _) _ ρ3 G3 _ ((S2'.trans S4).trans S5) ⟨⟨p, rfl⟩, R5⟩ q4.2
  · exact q4.elim
theorem se_dnew (t : Bool) {pos : Pos} : SE X T W Γ (.Dict [] [] pos) (.dct t []) := by
  cases t with
  | true =>
    refine pe_weak pe_dnewT fun σ H Q ⟨ρ, G, Qp, Ep, R, w, hq, he⟩ => fun p np => ?_
    obtain ⟨R2, S2⟩ := R.vr (r := .own (.dT [])) (v := .ref p) (G' := G) (H' := upd H p (.dT [])) ⟨New.fresh R.sub np, rfl, p, rfl, np, R.sub.free np, [], upd_same, rfl⟩
    exact hq _ _ ρ G _ S2 R2 w
  | false =>
    refine pe_weak pe_dnewK fun σ H Q ⟨ρ, G, Qp, Ep, R, w, hq, he⟩ => fun p np => ?_
    obtain ⟨R2, S2⟩ := R.vr (r := .own (.dK [])) (v := .ref p) (G' := G) (H' := upd H p (.dK [])) ⟨New.fresh R.sub np, rfl, p, rfl, np, R.sub.free np, [], upd_same, rfl⟩
    have w2 : ([] : List (Ky × D)).length ≤ 15 ∧ Qp (.own (.dK [])) ρ := w
    exact hq _ _ ρ G _ S2 R2 w2.2
end
end Mi
namespace Mi
open PySem PySem.Spec PyProof.Rows L2
/-! ### the draw is made -/
section
variable {X : Cx} {T : Tx} {W : WX} {Γ : Nat → FS} {ρ : Env} {σ : L2.St} {G H : Hp}
theorem get_init' {α : Type} {l r : List α} {x : α} {j : Nat} (hj : j < l.length) (h : l[j]? = some x) : (l ++ r)[j]? = some x := by rw [List.getElem?_append_left hj]; exact h
theorem dps_ints {G : Hp} : ∀ {ns : List Int} {vs : List V}, Dps T G (ns.map D.int) vs → vs = ns.map V.int
  | [], _, h => h
  | n :: ns, _, ⟨v, vr, h1, h2, h3⟩ => by subst h1; rw [dps_ints h3]; cases h2; rfl
theorem fp_draw {H : Hp} {p q c b : Addr} {rest turn more : Int} (hp : H p = some (.dK [(Sum.inr "great", .ref q), (Sum.inr "cells", .ref c), (Sum.inr "rest", .int rest), (Sum.inr "turn", .int turn), (Sum.inr "more", .int more)])) (f : Fp H p .draw b) : b = p ∨ b = q ∨ b = c := by
  rcases f with f | ⟨kvs, k, e, hm⟩
  · exact .inl f
  · rw [hp] at e
    cases e
    simp at hm
    rcases hm with ⟨_, hm⟩ | ⟨_, hm⟩
    · exact .inr (.inl hm)
    · exact .inr (.inr hm)
theorem se_drw {g : Expr} {ig : IE} {i : Nat} {x : Str} {j1 j2 j3 j4 j5 q3 q4 q5 : Nat} {p1 p2 p3 p4 p5 px r3 r4 r5 pos : Pos} (hg : SE X T W Γ g ig) (hN : X.N[i]? = some x) (hx : Vis X.env.scope x) (hd : (x == ("__debug__" : Str)) = false) (hcd : (x == ("__classdict__" : Str)) = false) :
    SE X T W Γ (.Dict [some (.Constant (.str "great") j1 p1), some (.Constant (.str "cells") j2 p2), some (.Constant (.str "rest") j3 p3), some (.Constant (.str "turn") j4 p4), some (.Constant (.str "more") j5 p5)] [g, .Name x px, .Constant (.int 0) q3 r3, .Constant (.int 0) q4 r4, .Constant (.int 7) q5 r5] pos) (.drw ig i) := by
  refine pe_weak (pe_disp (pps_cons pe_str hg (pps_cons pe_str (pe_var hN hx hd hcd) (pps_cons pe_str pe_int (pps_cons pe_str pe_int (pps_cons pe_str pe_int pps_nil))))) rfl rfl (by simp) (by show 5 ≤ 15; decide)) fun σ H Q ⟨ρ, G, Qp, Ep, R, w, hq, he⟩ => ?_
  intro p np
  have n1 : New G H G (upd H p (.dK [])) := New.fresh R.sub np
  have R1 := R.grow n1
  have S1 := R.growStep n1
  obtain ⟨R2', S2'⟩ := R.vr (r := .own (.dK [])) (v := .ref p) (G' := G) (H' := upd H p (.dK [])) ⟨n1, rfl, p, rfl, np, R.sub.free np, [], upd_same, rfl⟩
  obtain ⟨_, R2⟩ := R2'
  refine ⟨ρ, G, _, Ep, R1, w, fun r v ρ1 G1 H1 S3 R3 q3 => ?_, he.next S1⟩
  split at q3
  · rename_i gs
    obtain ⟨⟨ns, rfl, hn1, hn2⟩, q3⟩ := q3
    split at q3
    · rename_i cs ei
      obtain ⟨⟨ms, rfl, hm1⟩, q3⟩ := q3
      obtain ⟨⟨q, rfl⟩, R3⟩ := R3
      have hl1 : ρ1.length = σ.length := by have := R3.len; simpa using this
      obtain ⟨R4, S4⟩ := R2.carryM (fun z => by cases z) hl1 R3 S3
      -- the three places
      have hlen : ρ1.length = σ.length := hl1
      have ixp : (ρ1 ++ [Slot.own (.dK []), .own (.lst (ns.map D.int))])[ρ1.length]? = some (.own (.dK [])) := by simp
      have ixq : (ρ1 ++ [Slot.own (.dK []), .own (.lst (ns.map D.int))])[ρ1.length + 1]? = some (.own (.lst (ns.map D.int))) := by simp
      have iv : i < ρ1.length := (List.getElem?_eq_some_iff.mp ei).1
      have ixc : (ρ1 ++ [Slot.own (.dK []), .own (.lst (ns.map D.int))])[i]? = some (.own (.lst (ms.map D.int))) := by rw [List.getElem?_append_left iv]; exact ei
      have isp : (σ ++ [some (V.ref p), some (.ref q)])[ρ1.length]? = some (some (.ref p)) := by rw [hl1]; simp
      have isq : (σ ++ [some (V.ref p), some (.ref q)])[ρ1.length + 1]? = some (some (.ref q)) := by rw [hl1]; simp
      obtain ⟨c, isc, vc, hc, dc⟩ := R4.own i _ ixc
      obtain ⟨p', e1, wp', hp, dp⟩ := R4.own _ _ ixp
      rw [isp] at e1
      cases e1
      cases dp
      obtain ⟨q', e1, vq, hq', dq⟩ := R4.own _ _ ixq
      rw [isq] at e1
      cases e1
      have evq := dps_ints dq
      have evc := dps_ints dc
      subst evq evc
      have isc' : σ[i]? = some (some (.ref c)) := by rw [List.getElem?_append_left (by omega)] at isc; exact isc
      have npq : p ≠ q := fun e => by
        have := R4.dis _ _ _ _ p q p ixp ixq isp isq rfl e
        omega
      have npc : p ≠ c := fun e => by
        have := R4.dis _ _ _ _ p c p ixp ixc isp isc rfl e
        omega
      have nqc : q ≠ c := fun e => by
        have := R4.dis _ _ _ _ q c q ixq ixc isq isc rfl e
        omega
      refine ⟨_, isc', ?_⟩
      refine ⟨hp, [(Sum.inr "great", .ref q), (Sum.inr "cells", .ref c), (Sum.inr "rest", .int 0), (Sum.inr "turn", .int 0), (Sum.inr "more", .int 7)], rfl, by show 5 ≤ 15; decide, ?_⟩
      have em : mergeK [] [((Sum.inr "great" : Key), V.ref q), (Sum.inr "cells", .ref c), (Sum.inr "rest", .int 0), (Sum.inr "turn", .int 0), (Sum.inr "more", .int 7)] = [((Sum.inr "great" : Key), V.ref q), (Sum.inr "cells", .ref c), (Sum.inr "rest", .int 0), (Sum.inr "turn", .int 0), (Sum.inr "more", .int 7)] := by rfl
      rw [em]
      have hp4 : (upd H1 p (.dK [(Sum.inr "great", .ref q), (Sum.inr "cells", .ref c), (Sum.inr "rest", .int 0), (Sum.inr "turn", .int 0), (Sum.inr "more", .int 7)])) p = some (.dK [(Sum.inr "great", .ref q), (Sum.inr "cells", .ref c), (Sum.inr "rest", .int 0), (Sum.inr "turn", .int 0), (Sum.inr "more", .int 7)]) := upd_same
      generalize hH : upd H1 p (.dK [(Sum.inr "great", .ref q), (Sum.inr "cells", .ref c), (Sum.inr "rest", .int 0), (Sum.inr "turn", .int 0), (Sum.inr "more", .int 7)]) = H4 at hp4 ⊢
      have h4 : ∀ b, b ≠ p → H4 b = H1 b := fun b hb => by rw [← hH, upd_ne hb]
      have gp : G1 p = none := R4.sep _ _ p p ixp isp rfl
      have gq : G1 q = none := R4.sep _ _ q q ixq isq rfl
      have gc : G1 c = none := R4.sep _ _ c c ixc isc rfl
      have other : ∀ (j : Nat) (e : Cell), (ρ1.set i .non)[j]? = some (.own e) → j ≠ i ∧ ρ1[j]? = some (.own e) ∧ j < ρ1.length := fun j e h => by
        by_cases hj : j = i
        · subst hj; rw [List.getElem?_set_self iv] at h; cases h
        · rw [List.getElem?_set_ne (Ne.symm hj)] at h
          exact ⟨hj, h, (List.getElem?_eq_some_iff.mp h).1⟩
      -- a kept cell has none of the three places
      have apart : ∀ (j : Nat) (e : Cell) (a b : Addr), j ≠ i → ρ1[j]? = some (.own e) → σ[j]? = some (some (.ref a)) → Fp H1 a e b → b ≠ p ∧ b ≠ q ∧ b ≠ c := fun j e a b hj h1 h2 f => by
        have hjl := (List.getElem?_eq_some_iff.mp h1).1
        have g1 : (ρ1 ++ [Slot.own (.dK []), .own (.lst (ns.map D.int))])[j]? = some (.own e) := by rw [List.getElem?_append_left hjl]; exact h1
        have g2 : (σ ++ [some (V.ref p), some (.ref q)])[j]? = some (some (.ref a)) := by rw [List.getElem?_append_left (by omega)]; exact h2
        refine ⟨fun e1 => ?_, fun e1 => ?_, fun e1 => ?_⟩
        · have := R4.dis _ _ _ _ a p b g1 ixp g2 isp f e1; omega
        · have := R4.dis _ _ _ _ a q b g1 ixq g2 isq f e1; omega
        · have := R4.dis _ _ _ _ a c b g1 ixc g2 isc f e1; omega
      have keepF : ∀ (j : Nat) (e : Cell) (a b : Addr), j ≠ i → ρ1[j]? = some (.own e) → σ[j]? = some (some (.ref a)) → Fp H4 a e b → Fp H1 a e b := fun j e a b hj h1 h2 f => by
        have hjl := (List.getElem?_eq_some_iff.mp h1).1
        obtain ⟨a', e1, ca⟩ := R3.own j e (get_init' hjl h1)
        rw [List.getElem?_append_left (by omega), h2] at e1
        cases e1
        obtain ⟨o, ho, _⟩ := Fp.there ca (Fp.self e)
        have ha := (apart j e a a hj h1 h2 (Fp.self e)).1
        exact Fp.keep (fun u hu => by rw [h4 a ha]; exact hu) ⟨o, ho⟩ f
      have S5 : Step (FpE (ρ1 ++ [Slot.own (.dK []), .own (.lst (ns.map D.int))]) (σ ++ [some (V.ref p), some (.ref q)]) H1) (FpR (ρ1.set i .non) σ (.own .draw) (.ref p) H4) G1 H1 G1 H4 := by
        refine ⟨Same.refl _, fun b e1 e2 => absurd e1 e2, fun b o e1 e2 => ?_, fun b hb => ?_⟩
        · by_cases hb : b = p
          · subst hb; exact absurd ⟨_, _, _, ixp, isp, rfl⟩ e2
          · rw [h4 b hb]; exact e1
        · obtain ⟨j, e, a, h1, h2, h3⟩ := hb
          rcases get_app h1 with h1 | ⟨hj, h1⟩
          · obtain ⟨o1, o2, o3⟩ := other j e h1
            rw [List.getElem?_append_left (by omega)] at h2
            exact .inl ⟨j, e, a, by rw [List.getElem?_append_left o3]; exact o2, by rw [List.getElem?_append_left (by omega)]; exact h2, keepF j e a b o1 o2 h2 h3⟩
          · cases h1
            rw [hj, List.length_set, hl1, get_last] at h2
            cases h2
            rcases fp_draw hp4 h3 with e | e | e
            · exact .inl ⟨_, _, _, ixp, isp, e⟩
            · exact .inl ⟨_, _, _, ixq, isq, e⟩
            · exact .inl ⟨_, _, _, ixc, isc, e⟩
      refine hq (.own .draw) (.ref p) (ρ1.set i .non) G1 H4 ((S2'.trans S4).trans S5) ⟨⟨p, rfl⟩, ?_⟩ q3
      refine ⟨by simp [hl1], fun b o e => ?_, fun j d h => ?_, fun j e h => ?_, fun j e a b h s f => ?_, fun j k e e' a a' b h1 h2 s1 s2 f1 f2 => ?_⟩
      · have : b ≠ p := fun z => by rw [z, gp] at e; cases e
        rw [h4 b this]; exact R3.sub b o e
      · rcases get_app h with h | ⟨_, h⟩
        · have hj : j ≠ i := fun z => by subst z; rw [List.getElem?_set_self iv] at h; cases h
          rw [List.getElem?_set_ne (Ne.symm hj)] at h
          have hjl := (List.getElem?_eq_some_iff.mp h).1
          obtain ⟨v, g1, g2⟩ := R3.val j d (get_init' hjl h)
          rw [List.getElem?_append_left (by omega)] at g1
          exact ⟨v, get_init g1, g2⟩
        · cases h
      · rcases get_app h with h | ⟨hj, h⟩
        · obtain ⟨o1, o2, o3⟩ := other j e h
          obtain ⟨a, g1, g2⟩ := R3.own j e (get_init' o3 o2)
          rw [List.getElem?_append_left (by omega)] at g1
          exact ⟨a, get_init g1, g2.keep fun b o f hb => by rw [h4 b (apart j e a b o1 o2 g1 f).1]; exact hb⟩
        · cases h
          refine ⟨p, by rw [hj, List.length_set, hl1, get_last], q, c, ns, ms, 0, 0, 7, hp4, by rw [h4 q npq.symm]; exact hq', by rw [h4 c npc.symm]; exact hc, npq, npc, nqc, hn1, hn2, hm1, by decide, by decide, by decide, by decide⟩
      · rcases get_app h with h | ⟨hj, h⟩
        · obtain ⟨o1, o2, o3⟩ := other j e h
          rw [List.getElem?_append_left (by omega)] at s
          exact R3.sep j e a b (get_init' o3 o2) (by rw [List.getElem?_append_left (by omega)]; exact s) (keepF j e a b o1 o2 s f)
        · cases h
          rw [hj, List.length_set, hl1, get_last] at s
          cases s
          rcases fp_draw hp4 f with e | e | e
          · rw [e]; exact gp
          · rw [e]; exact gq
          · rw [e]; exact gc
      · rcases get_app h1 with h1 | ⟨hj, h1⟩ <;> rcases get_app h2 with h2 | ⟨hk, h2⟩
        · obtain ⟨o1, o2, o3⟩ := other j e h1
          obtain ⟨u1, u2, u3⟩ := other k e' h2
          rw [List.getElem?_append_left (by omega)] at s1 s2
          exact R3.dis j k e e' a a' b (get_init' o3 o2) (get_init' u3 u2) (by rw [List.getElem?_append_left (by omega)]; exact s1) (by rw [List.getElem?_append_left (by omega)]; exact s2) (keepF j e a b o1 o2 s1 f1) (keepF k e' a' b u1 u2 s2 f2)
        · obtain ⟨o1, o2, o3⟩ := other j e h1
          rw [List.getElem?_append_left (by omega)] at s1
          cases h2
          rw [hk, List.length_set, hl1, get_last] at s2
          cases s2
          obtain ⟨n1, n2, n3⟩ := apart j e a b o1 o2 s1 (keepF j e a b o1 o2 s1 f1)
          rcases fp_draw hp4 f2 with e | e | e
          · exact absurd e n1
          · exact absurd e n2
          · exact absurd e n3
        · obtain ⟨o1, o2, o3⟩ := other k e' h2
          rw [List.getElem?_append_left (by omega)] at s2
          cases h1
          rw [hj, List.length_set, hl1, get_last] at s1
          cases s1
          obtain ⟨n1, n2, n3⟩ := apart k e' a' b o1 o2 s2 (keepF k e' a' b o1 o2 s2 f2)
          rcases fp_draw hp4 f1 with e | e | e
          · exact absurd e n1
          · exact absurd e n2
          · exact absurd e n3
        · omega
    · exact q3.elim
  · exact q3.elim
end
end Mi
/-! From the program's syntax to the small language. -/
namespace Mi
open PySem
/-- what is known of a text and of a def: hints are marked by * (nothing leans on them) -/
structure Cc where
  N : List Str
  sc : Scope
  fnc : Str → Bool
  keep : List Nat
  tks : List Str
  fn : Str → Nat → Option (Nat × List D)
  nw : Str → Nat → Option (Nat × Nat × List D)
  mt : Str → Nat → Option (Nat × Nat × List D)
  con : Str → Option D
  cls : Str → Option Cls
  self : Option Nat
  na : Nat → List Str
  pas : List Nat
  ob : List (Str × Nat)
  dn : Nat → Dk → Option Nat
  kf : Str → Nat → List Str → Option Nat
  ftp : Bool
/-- names that stand for objects of an own class -/
def obC (l : List (Str × Nat)) : Expr → Option Nat
  | .Name x _ => l.lookup x
  | .Attribute _ f _ => l.lookup f
  | .UnaryOp .USub a _ => obC l a
  | .BinOp a .BitAnd _ _ => obC l a
  | .Call (.Name x _) _ _ _ => l.lookup x
  | _ => none
def dnOf (C : Cc) (k : Dk) (e : Expr) : Option (Nat × Nat) := (obC C.ob e).bind fun c => (C.dn c k).bind fun f => some (c, f)
def bDn (C : Cc) (op : Operator) (a : Expr) : Option (Nat × Nat) := match op with
  | .BitAnd => dnOf C .band a
  | _ => none
def cDn (C : Cc) (op : CmpOp) (a b : Expr) : Option (Dk × Nat × Nat) := match op with
  | .In => (dnOf C .in_ b).bind fun p => some (.in_, p)
  | .NotIn => (dnOf C .nin b).bind fun p => some (.nin, p)
  | .Eq => (dnOf C .eq a).bind fun p => some (.eq, p)
  | _ => none
def lDn (C : Cc) (x : Str) (es : List Expr) : Option (Nat × Nat) := match es with
  | [a] => if x = "len" then dnOf C .len a else none
  | _ => none
def ftB (b : Bool) : Blt → Blt
  | .tuple1 => if b then .ftuple1 else .tuple1
  | q => q
def idxS (x : Str) : List Str → Option Nat
  | [] => none
  | y :: ys => if y = x then some 0 else (idxS x ys).map (· + 1)
def visB (sc : Scope) (x : Str) : Bool := match sc.names.lookup x with
  | some .local => true | some .cell => true | some .free => true | _ => false
def locB (C : Cc) (x : Str) : Bool := match C.sc.names.lookup x with
  | some .local => true | some .cell => C.fnc x | _ => false
def glB (sc : Scope) (x : Str) : Bool := sc.names.lookup x == some .globalImplicit
def oddN (x : Str) : Bool := x == ("__debug__" : Str) || x == ("__classdict__" : Str) || x == ("__name__" : Str)
def slotV (C : Cc) (x : Str) : Option Nat := if visB C.sc x && !oddN x then idxS x C.N else none
def slotL (C : Cc) (x : Str) : Option Nat := if locB C x && !oddN x then idxS x C.N else none
def isStar : Expr → Bool
  | .Starred _ _ => true
  | _ => false
def isSet : Expr → Bool
  | .Set _ _ _ => true
  | _ => false
def isSlice : Expr → Bool
  | .Slice _ _ _ _ => true
  | _ => false
def isComp : Expr → Bool
  | .ListComp _ _ _ _ | .SetComp _ _ _ _ | .DictComp _ _ _ _ _ => true
  | _ => false
/-- f() alone -/
def isCall0 : Expr → Bool
  | .Call (.Name _ _) [] [] _ => true
  | _ => false
def isMinus1 : Expr → Bool
  | .UnaryOp .USub (.Constant (.int 1) _ _) _ => true
  | _ => false
def bltOf (x : Str) (n : Nat) : Option Blt :=
  if x = "len" ∧ n = 1 then some .len else if x = "abs" ∧ n = 1 then some .abs else if x = "max" ∧ n = 1 then some .max1 else if x = "min" ∧ n = 1 then some .min1
  else if x = "max" ∧ n = 2 then some .max2 else if x = "min" ∧ n = 2 then some .min2 else if x = "int" ∧ n = 1 then some .int1 else if x = "list" ∧ n = 1 then some .list1
  else if x = "tuple" ∧ n = 1 then some .tuple1 else if x = "dict" ∧ n = 1 then some .dict1 else if x = "sum" ∧ n = 1 then some .sum1 else if x = "all" ∧ n = 1 then some .all1
  else if x = "any" ∧ n = 1 then some .any1 else none
def mthOf (x : Str) (n : Nat) : Option Mth :=
  if x = "get" ∧ n = 1 then some .get1 else if x = "get" ∧ n = 2 then some .get2 else if x = "join" ∧ n = 1 then some .join else if x = "index" ∧ n = 1 then some .index else none
def muOf (x : Str) (n : Nat) : Option Mu :=
  if x = "append" ∧ n = 1 then some .append else if x = "insert" ∧ n = 2 then some .insert else if x = "clear" ∧ n = 0 then some .clear else if x = "reverse" ∧ n = 0 then some .reverse
  else if x = "pop" ∧ n = 1 then some .pop else none
def clsOf (C : Cc) (x : Str) : Option Cls := if glB C.sc x && !oddN x then C.cls x else none
def relS (scope sc : Scope) : Scope :=
  { scope with names := scope.names.map fun (n, k) => if (k == .free && sc.kind == .function && sc.names.lookup n == some .cell) then (n, .cell) else (n, k) }
/-- the block's own names that have slots -/
def ownOf (N : List Str) (scope : Scope) : List (Str × Nat) := scope.names.filterMap fun (y, k) => if k == .local || k == .cell then (idxS y N).map fun i => (y, i) else none
def blkB (N : List Str) (sc scope : Scope) : Bool :=
  scope.kind == .function && scope.names.all (fun y => scope.names.lookup y.1 == some y.2) && scope.names.all fun y => !(y.2 == .free) || sc.names.lookup y.1 == some .cell || sc.names.lookup y.1 == some .free
def Cc.blk (C : Cc) (scope : Scope) : Cc := { C with sc := relS scope C.sc, fnc := fun x => scope.names.lookup x == some .cell }
/-- an item of a display, an argument: a name that owns is frozen -/
def frzK (C : Cc) : IE → IE
  | .var i => if C.keep.contains i then .frz (.var i) else .var i
  | e => e
/-- an argument of a def: a name that owns is frozen, unless it is to be handed on as it is -/
def frzC (C : Cc) : IE → IE
  | .var i => if C.keep.contains i && !C.pas.contains i then .frz (.var i) else .var i
  | e => e
mutual
def cE : Nat → Cc → Expr → Option IE
  | 0, _, _ => none
  | n + 1, C, e => match e with
    | .Name x _ => match slotV C x with
      | some i => some (.var i)
      | none => if glB C.sc x && !oddN x then (C.con x).map .con else none
    | .Constant (.int i) _ _ => some (.con (.int i))
    | .Constant (.bool b) _ _ => some (.con (.bl b))
    | .Constant .none _ _ => some (.con .non)
    | .Constant (.str z) _ _ => if okS z then some (.con (.str z)) else none
    | .BinOp a op b _ => (cE n C a).bind fun ia => (cE n C b).bind fun ib => match bDn C op a with
      | some (c, f) => some (.dnb .band c f ia ib)
      | none => some (.bin op ia ib)
    | .UnaryOp .USub a _ => (cE n C a).bind fun ia => match dnOf C .neg a with
      | some (c, f) => some (.dnu .neg c f ia)
      | none => some (.neg ia)
    | .UnaryOp .Not a _ => (cE n C a).bind fun ia => some (.not ia)
    | .BoolOp _ [a] _ => cE n C a
    | .BoolOp .And (a :: b :: r) pos => (cE n C a).bind fun ia => (cE n C (.BoolOp .And (b :: r) pos)).bind fun ib => some (.and ia ib)
    | .BoolOp .Or (a :: b :: r) pos => (cE n C a).bind fun ia => (cE n C (.BoolOp .Or (b :: r) pos)).bind fun ib => some (.or ia ib)
    | .IfExp c a b _ => (cE n C c).bind fun ic => (cE n C a).bind fun ia => (cE n C b).bind fun ib => some (.ifx ic ia ib)
    | .Compare a [op] [b] _ => if isSet b then none else (cE n C a).bind fun ia => (cE n C b).bind fun ib => match cDn C op a b with
      | some (k, c, f) => some (.dnb k c f ia ib)
      | none => some (.cmp op ia ib)
    | .Compare a [op, op2] [b, c] _ => if isSet c then none else (cE n C a).bind fun ia => (cE n C b).bind fun ib => (cE n C c).bind fun ic => some (.chn op op2 ia ib ic)
    | .Tuple es _ _ => (cL n C es).bind fun is => some (.tup (is.map (frzK C)))
    | .List es _ => (cL n C es).bind fun is => some (.lst (is.map (frzK C)))
    | .Dict [] [] _ => some (.dct false [])
    | .Dict [some (.Constant (.str k1) j1 p1), some (.Constant (.str k2) j2 p2), some (.Constant (.str k3) j3 p3), some (.Constant (.str k4) j4 p4), some (.Constant (.str k5) j5 p5)] [g, .Name x px, .Constant (.int i3) q3 r3, .Constant (.int i4) q4 r4, .Constant (.int i5) q5 r5] _ =>
      if (k1 = "great" ∧ k2 = "cells" ∧ k3 = "rest" ∧ k4 = "turn" ∧ k5 = "more") ∧ i3 = 0 ∧ i4 = 0 ∧ i5 = 7 then (cE n C g).bind fun ig => (slotV C x).bind fun i => some (.drw ig i)
      else none
    | .Dict ks vs _ => if ks.length ≤ 15 && !ks.isEmpty then (cD n C ks vs).bind fun is => some (.dct false is) else none
    | .Subscript a (.Slice lo hi none _) _ => (cE n C a).bind fun ia => (cO n C lo).bind fun il => (cO n C hi).bind fun ih => some (.slc ia il ih)
    | .Subscript a (.Slice none none (some (.UnaryOp .USub (.Constant (.int 1) _ _) _)) _) _ => (cE n C a).bind fun ia => some (.rvs ia)
    | .Subscript a b _ => if isSlice b then none else (cE n C a).bind fun ia => (cE n C b).bind fun ib => some (.sub ia ib)
    | .Attribute a f _ => if isCall0 a then none else (cE n C a).bind fun ia => some (.att ia f)
    | .Call (.Name x _) es [] _ =>
      if glB C.sc x && !oddN x then
        if x = "isinstance" then match es with
          | [a, .Name c _] => (cE n C a).bind fun ia => (clsOf C c).bind fun k => if isStar a then none else some (.isi ia k)
          | _ => none
        else (cL n C es).bind fun is => match C.fn x es.length with
          | some (fi, dds) => if es.isEmpty then none else some (.call fi (is.map (frzC C)) dds)
          | none => match C.nw x es.length with
            | some (c, fi, dds) => if es.isEmpty then none else some (.make c fi (is.map (frzC C)) dds)
            | none => match lDn C x es with
              | some (c, f) => match is with
                | [ia] => some (.dnu .len c f ia)
                | _ => none
              | none => match bltOf x es.length with
                | some b => some (.blt (ftB C.ftp b) is)
                | none => none
      else none
    | .Call (.Name x _) es kws _ =>
      if glB C.sc x && !oddN x && !es.isEmpty && kws.all (fun k => k.arg.isSome) then match C.kf x es.length (kws.filterMap (·.arg)) with
        | some fi => (cL n C es).bind fun is => (cL n C (kws.map (·.value))).bind fun js => some (.call fi (is.map (frzC C) ++ js.map (frzC C)) [])
        | none => none
      else none
    | .Call (.Attribute o m ap) es [] pos =>
      if isCall0 o || !(ap.endLine == pos.line) || !(es.length < 28) then none
      else (cL n C es).bind fun is => match C.mt m es.length with
        | some (c, fi, dds) => (cE n C o).bind fun io => some (.mcl c m fi io (is.map (frzC C)) dds)
        | none => match muOf m es.length with
          | some u => match o with
            | .Name x _ => (slotV C x).bind fun i => some (.mut u i (is.map (frzK C)))
            | _ => none
          | none => match mthOf m es.length with
            | some u => (cE n C o).bind fun io => some (.mth u io is)
            | none => none
    | .ListComp elt [⟨tg, iter, ifs, 0⟩] scope _ => if blkB C.N C.sc scope && !isSet iter then
        (cI n C tg iter).bind fun ii => (cT n (C.blk scope) tg).bind fun ti => (cF n (C.blk scope) ifs).bind fun io => (cE n (C.blk scope) elt).bind fun ie => some (.lcp ti ii io ie ((ownOf C.N scope).map (·.2)))
      else none
    | .ListComp elt [⟨tg, iter, ifs, 0⟩, ⟨tg1, iter1, ifs1, 0⟩] scope _ => if blkB C.N C.sc scope && !isSet iter && !isSet iter1 then
        (cI n C tg iter).bind fun ii => (cT n (C.blk scope) tg).bind fun ti => (cF n (C.blk scope) ifs).bind fun io => (cI n (C.blk scope) tg1 iter1).bind fun ii1 => (cT n (C.blk scope) tg1).bind fun ti1 => (cF n (C.blk scope) ifs1).bind fun io1 =>
          (cE n (C.blk scope) elt).bind fun ie => if ti1.slots.all fun i => ((ownOf C.N scope).map (·.2)).contains i then some (.lc2 ti ii io ti1 ii1 io1 ie ((ownOf C.N scope).map (·.2)) ti1.slots) else none
      else none
    | .DictComp kx vx [⟨tg, iter, ifs, 0⟩] scope _ => if blkB C.N C.sc scope && !isSet iter then
        (cI n C tg iter).bind fun ii => (cT n (C.blk scope) tg).bind fun ti => (cF n (C.blk scope) ifs).bind fun io => (cE n (C.blk scope) kx).bind fun ik => (cE n (C.blk scope) vx).bind fun iv =>
          some (.dcp (match kx with | .Tuple _ _ _ => true | .Name x _ => C.tks.contains x | _ => false) ti ii io ik iv ((ownOf C.N scope).map (·.2)))
      else none
    | .DictComp kx vx [⟨tg, iter, ifs, 0⟩, ⟨tg1, iter1, ifs1, 0⟩] scope _ => if blkB C.N C.sc scope && !isSet iter && !isSet iter1 then
        (cI n C tg iter).bind fun ii => (cT n (C.blk scope) tg).bind fun ti => (cF n (C.blk scope) ifs).bind fun io => (cI n (C.blk scope) tg1 iter1).bind fun ii1 => (cT n (C.blk scope) tg1).bind fun ti1 => (cF n (C.blk scope) ifs1).bind fun io1 =>
          (cE n (C.blk scope) kx).bind fun ik => (cE n (C.blk scope) vx).bind fun iv => if ti1.slots.all fun i => ((ownOf C.N scope).map (·.2)).contains i then
            some (.dc2 (match kx with | .Tuple _ _ _ => true | .Name x _ => C.tks.contains x | _ => false) ti ii io ti1 ii1 io1 ik iv ((ownOf C.N scope).map (·.2)) ti1.slots) else none
      else none
    | _ => none
/-- arguments -/
def cL : Nat → Cc → List Expr → Option (List IE)
  | 0, _, _ => none
  | _ + 1, _, [] => some []
  | n + 1, C, e :: es => if isStar e then none else (cE n C e).bind fun i => (cL n C es).bind fun is => some (i :: is)
/-- pairs of a display -/
def cD : Nat → Cc → List (Option Expr) → List Expr → Option (List IE)
  | 0, _, _, _ => none
  | _ + 1, _, [], [] => some []
  | n + 1, C, some k :: ks, v :: vs => (cE n C k).bind fun ik => (cE n C v).bind fun iv => (cD n C ks vs).bind fun is => some (ik :: iv :: is)
  | _, _, _, _ => none
/-- a bound of a slice -/
def cO : Nat → Cc → Option Expr → Option (Option IE)
  | 0, _, _ => none
  | _ + 1, _, none => some none
  | n + 1, C, some e => (cE n C e).bind fun i => some (some i)
/-- a comprehension's tests -/
def cF : Nat → Cc → List Expr → Option (Option IE)
  | 0, _, _ => none
  | _ + 1, _, [] => some none
  | n + 1, C, [e] => (cE n C e).bind fun i => some (some i)
  | _, _, _ => none
/-- what is walked -/
def cI : Nat → Cc → Expr → Expr → Option II
  | 0, _, _, _ => none
  | n + 1, C, tg, e => match e with
    | .Call (.Name x _) [a] [] _ =>
      if x = "range" ∧ glB C.sc x = true then if isStar a then none else (cE n C a).bind fun ia => some (.rng ia)
      else if x = "enumerate" ∧ glB C.sc x = true then match tg with
        | .Tuple _ _ _ => if isStar a then none else (cE n C a).bind fun ia => some (.enum (.frz ia))
        | _ => none
      else (cE n C e).bind fun ie => some (.it ie)
    | .Call (.Name x _) [a, b] [] _ =>
      if x = "range" ∧ glB C.sc x = true then if isStar a || isStar b then none else (cE n C a).bind fun ia => (cE n C b).bind fun ib => some (.rng2 ia ib)
      else if x = "zip" ∧ glB C.sc x = true then match tg with
        | .Tuple _ _ _ => if isStar a || isStar b then none else (cE n C a).bind fun ia => (cE n C b).bind fun ib => some (.zip (.frz ia) (.frz ib))
        | _ => none
      else (cE n C e).bind fun ie => some (.it ie)
    | .Call (.Attribute o m ap) [] [] pos => if m = "items" then match tg with
        | .Tuple _ _ _ => if isCall0 o || !(ap.endLine == pos.line) then none else (cE n C o).bind fun io => some (.items io)
        | _ => none
      else (cE n C e).bind fun ie => some (.it ie)
    | e => (cE n C e).bind fun ie => some (.it ie)
/-- a target -/
def cT : Nat → Cc → Expr → Option Tg
  | 0, _, _ => none
  | n + 1, C, e => match e with
    | .Name x _ => (slotL C x).bind fun i => some (.name i)
    | .Tuple es _ _ => (cTs n C es).bind fun ts => some (.tup ts)
    | _ => none
def cTs : Nat → Cc → List Expr → Option (List Tg)
  | 0, _, _ => none
  | _ + 1, _, [] => some []
  | n + 1, C, e :: es => if isStar e then none else (cT n C e).bind fun t => (cTs n C es).bind fun ts => some (t :: ts)
end
/-- into a name: frozen unless the name keeps -/
def frzA (C : Cc) (i : Nat) (e : IE) : IE := if C.keep.contains i then e else .frz e
/-- plain local names on the line l -/
def locsOn (sc : Scope) (l : Nat) (ts : List Expr) : List Str := ts.filterMap fun t => match t with
  | .Name x p => if sc.names.lookup x == some .local && p.line == l then some x else none
  | _ => none
/-- the stores of a tuple's display go to plain local names, from the right -/
def swB (sc : Scope) (ts vs : List Expr) : Bool := (ts.length == 2 || ts.length == 3) && vs.length == ts.length && !(vs.any isStar) &&
  (locsOn sc ((ts.head?.map (·.pos.line)).getD 0) ts).length == ts.length && (locsOn sc ((ts.head?.map (·.pos.line)).getD 0) ts).eraseDups.length == (locsOn sc ((ts.head?.map (·.pos.line)).getD 0) ts).length
def isTup : Expr → Bool
  | .Tuple _ _ _ => true
  | _ => false
def frzAs (C : Cc) : List Nat → List IE → List IE
  | i :: ns, e :: es => frzA C i e :: frzAs C ns es
  | _, es => es
mutual
def cS : Nat → Cc → Stmt → IS
  | 0, _, _ => .nev
  | n + 1, C, st => match st with
    | .Pass _ => .pas
    | .Break _ => .brk
    | .Continue _ => .cnt
    | .Expr (.Constant (.str _) _ _) _ => .pas
    | .Expr e _ => if isComp e then .nev else match cE n C e with
      | some i => .exp i
      | none => .nev
    | .Return none _ => .retN
    | .Return (some e) _ => match cE n C e with
      | some i => .ret i
      | none => .nev
    | .If c a b _ => match cE n C c with
      | some i => .ite i (cSs n C a) (cSs n C b)
      | none => .nev
    | .For tg it b [] _ => if isSet it then .nev else match cI n C tg it with
      | some ii => match cT n C tg with
        | some ti => .for ti ii (cSs n C b)
        | none => .nev
      | none => .nev
    | .While c b [] _ => match cE n C c with
      | some i => .whl i (cSs n C b)
      | none => .nev
    | .Assign [.Name x _] (.Dict [] [] _) _ => match slotL C x with
      | some i => .asg (.name i) (frzA C i (.dct (C.tks.contains x) []))
      | none => .nev
    | .Assign [.Name x _] v _ => match slotL C x with
      | some i => match cE n C v with
        | some ie => .asg (.name i) (frzA C i ie)
        | none => .nev
      | none => .nev
    | .Assign [.Subscript (.Name x _) k _] v _ => match slotV C x with
      | some i => match cE n C k with
        | some ik => match cE n C v with
          | some iv => .sti i ik iv
          | none => .nev
        | none => .nev
      | none => .nev
    | .Assign [.Attribute (.Name x _) f _] v _ => match slotV C x with
      | some i => match C.self with
        | some c => if (C.na c).contains f then match cE n { C with ftp := true } v with
          | some iv => .sta i c f iv
          | none => .nev
          else .nev
        | none => .nev
      | none => .nev
    | .Assign [.Tuple [.Name x px, .Name y py] kt pt] (.Tuple [a, b] k2 pt2) _ =>
      if swB C.sc [.Name x px, .Name y py] [a, b] && !([a, b].all (foldedForSure 8)) then
        if [a, b].all (constantsAlone 8) then .nev else match slotL C x with
          | some i => match slotL C y with
            | some j => if i = j then .nev else match cE n C a with
              | some ia => match cE n C b with
                | some ib => .par [i, j] [frzA C i ia, frzA C j ib]
                | none => .nev
              | none => .nev
            | none => .nev
          | none => .nev
      else match cT n C (.Tuple [.Name x px, .Name y py] kt pt) with
        | some (.tup ts) => match cE n C (.Tuple [a, b] k2 pt2) with
          | some iv => .asg (.tup ts) iv
          | none => .nev
        | _ => .nev
    | .Assign [.Tuple [.Name x px, .Name y py, .Name z pz] kt pt] (.Tuple [a, b, c] k2 pt2) _ =>
      if swB C.sc [.Name x px, .Name y py, .Name z pz] [a, b, c] && !([a, b, c].all (foldedForSure 8)) then
        if [a, b, c].all (constantsAlone 8) then .nev else match slotL C x with
          | some i => match slotL C y with
            | some j => match slotL C z with
              | some l => if i = j ∨ i = l ∨ j = l then .nev else match cE n C a with
                | some ia => match cE n C b with
                  | some ib => match cE n C c with
                    | some ic => .par [i, j, l] [frzA C i ia, frzA C j ib, frzA C l ic]
                    | none => .nev
                  | none => .nev
                | none => .nev
              | none => .nev
            | none => .nev
          | none => .nev
      else match cT n C (.Tuple [.Name x px, .Name y py, .Name z pz] kt pt) with
        | some (.tup ts) => match cE n C (.Tuple [a, b, c] k2 pt2) with
          | some iv => .asg (.tup ts) iv
          | none => .nev
        | _ => .nev
    | .Assign [.Tuple es kt pt] v _ => if isTup v then .nev else match cT n C (.Tuple es kt pt) with
        | some (.tup ts) => match cE n C v with
          | some iv => .asg (.tup ts) iv
          | none => .nev
        | _ => .nev
    | _ => .nev
def cSs : Nat → Cc → List Stmt → List IS
  | 0, _, _ => [.nev]
  | _ + 1, _, [] => []
  | n + 1, C, s :: r => cS n C s :: cSs n C r
end
end Mi
namespace Mi
open PySem PySem.Spec PyProof.Rows L2
/-! ### own methods behind operators -/
section
variable {X : Cx} {T : Tx} {W : WX} {k : Nat} {f : Addr} {fd : FuncData} {ps : List Str} {sp : Sp} {pins : List (Addr × Obj)} {σ : L2.St} {H : Hp} {s : Shared} {Q : VK} {C a dx : Addr} {fs : List (Str × V)}
/-- a def that may be run where we stand, or one builtin deeper -/
structure Runs (X : Cx) (W : WX) (k : Nat) (f : Addr) (fd : FuncData) (ps : List Str) (sp : Sp) : Prop where
  F : FnOk X.prog X.w X.K X.mg X.base (L2.CX X.prog X.w) k f fd ps sp
  hr : Room (k + 1) X.A
  hb : Binds X.K fd ps []
  tk : Takes X W
theorem Runs.go {us : List Value} {vs : List V} (r : Runs X W k f fd ps sp) (I : Inv X pins σ H s) (rv : Vals vs us) (h : sp vs H Q (WE W σ)) : wpAny (model X.prog X.w) X.A (call (.ref f) us) (EP X pins σ Q) X.xe s := by
  have := run_fnSD (E := WE W) (dvs := []) (ds := []) r.F (r.hr.mono (Nat.le_succ _)) r.hb .nil (passAt r.tk σ) I rv (by rw [List.append_nil]; exact h)
  exact this
theorem Runs.in1 {us : List Value} {vs : List V} (r : Runs X W k f fd ps sp) (I : Inv X pins σ H s) (rv : Vals vs us) (h : sp vs H Q (WE W σ)) : wpAny (model X.prog X.w) X.A.in1 (call (.ref f) us) (EP X pins σ Q) X.xe s := by
  have hl : us.length = ps.length := by rw [← rv.length]; exact r.F.len _ _ _ _ h
  have hb := r.hb s us I.kIn (by rw [List.append_nil]; exact hl)
  rw [List.append_nil] at hb
  refine wpAny_call (codeAny_mono (r.F.run X.A.in1 X.stack s H ⟨us, []⟩ us vs Q (WE W σ) r.hr.in1 I.env0.in1 hb rv h) fun z s' hq => ?_)
  cases z with
  | error e => exact passAt r.tk σ pins H s e s' I hq
  | ok fl =>
    cases fl with
    | ret u => exact I.after hq
    | next => exact False.elim hq
    | brk => exact False.elim hq
    | cont => exact False.elim hq
theorem inst_of (I : Inv X pins σ H s) (e : H a = some (.ins C dx fs)) : ∃ ox od, PySem.W.InstAt s.heap a ox C (some od) := by
  obtain ⟨mA, O, _⟩ := ins_get I.hok e
  obtain ⟨od, J, _⟩ := O.look
  exact ⟨_, od, J⟩
/-- v in o -/
theorem own_in (r : Runs X W k f fd ps sp) (hm : Meth X.K C "__contains__" f) (I : Inv X pins σ H s) (e : H a = some (.ins C dx fs)) {x : V} {v : Value} (rx : RelV x v) (g : Bool → Bool)
    (h : sp [.ref a, x] H (fun z H' => ∃ b, z = .bl b ∧ Q (.bl (g b)) H') (WE W σ)) : wpAny (model X.prog X.w) X.A (contains (.ref a) v) (fun b s' => EP X pins σ Q (.bool (g b)) s') X.xe s := by
  obtain ⟨ox, od, J⟩ := inst_of I e
  unfold contains
  refine wpAny_holding (wpAny_bind (wpAny_bind (J.type.here ((PySem.W.looks_findIn I.kIn hm.at_).here ?_))))
  rw [if_neg (fun z => by cases z)]
  refine wpAny_bind (PySem.W.unlessNone_K I.kIn J hm.at_ hm.fn (thn (r.go (vs := [.ref a, x]) I (.cons rfl (.cons rx .nil)) h) fun u s1 ⟨z, H1, I1, rz, b, ez, q⟩ => ?_))
  subst ez
  cases rz
  exact wpAny_truthy_bool ⟨.bl (g b), H1, I1, rfl, q⟩
/-- -o -/
theorem own_neg (r : Runs X W k f fd ps sp) (hm : Meth X.K C "__neg__" f) (I : Inv X pins σ H s) (e : H a = some (.ins C dx fs)) (h : sp [.ref a] H Q (WE W σ)) : wpAny (model X.prog X.w) X.A (unaryOp .USub (.ref a)) (EP X pins σ Q) X.xe s := by
  obtain ⟨ox, od, J⟩ := inst_of I e
  unfold unaryOp
  refine wpAny_holding ?_
  show wpAny _ _ (callSpecial? (.ref a) "__neg__" [] >>= _) _ _ _
  refine wpAny_bind (PySem.W.special_fn I.kIn J hm.at_ (beq_iff_eq.mp hm.fn) (thn (r.go (vs := [.ref a]) I (.cons rfl .nil) h) fun u s1 q => ?_))
  exact wpAny_pure q
/-- len(o) -/
theorem own_len (r : Runs X W k f fd ps sp) (hm : Meth X.K C "__len__" f) (I : Inv X pins σ H s) (e : H a = some (.ins C dx fs)) (h : sp [.ref a] H (fun z H' => ∃ n : Int, z = .int n ∧ (0 ≤ n ∧ n < 2 ^ 62) ∧ Q (.int n) H') (WE W σ)) :
    wpAny (model X.prog X.w) X.A (call (.builtin "len") [.ref a]) (EP X pins σ Q) X.xe s := by
  obtain ⟨ox, od, J⟩ := inst_of I e
  refine Calls.call_function_entry kind_len plain_len entry_len (args_len1 _) ?_
  unfold Builtin.«len»
  refine wpAny_bind (m := oneArg "len" _) (wpAny_pure ?_)
  refine wpAny_bind (m := callSpecial? (.ref a) (Str.ofString "__len__")) (PySem.W.special_fn I.kIn J hm.at_ (beq_iff_eq.mp hm.fn) (thn (r.in1 (vs := [.ref a]) I (.cons rfl .nil) h) fun u s1 ⟨z, H1, I1, rz, n, ez, hn, q⟩ => ?_))
  subst ez
  obtain ⟨t, rfl⟩ := rz
  refine wpAny_bind (wpAny_holding (wpAny_pure ?_))
  refine wpAny_bind (wpAny_letGo ?_)
  show wpAny _ _ (if n < 0 then _ else _) _ _ _
  rw [if_neg (by omega)]
  show wpAny _ _ (if n ≥ 2 ^ 63 then _ else _) _ _ _
  rw [if_neg (by omega)]
  exact wpAny_bind (wpAny_mkInt (wpAny_pure ⟨_, rfl, .int n, H1, I1.tok _, ⟨_, rfl⟩, q⟩))
/-- o == v, the class of v below none of o's -/
theorem own_eq {tb : Value} (r : Runs X W k f fd ps sp) (hu : X.A.units < cLine) (hm : Meth X.K C "__eq__" f) (I : Inv X pins σ H s) (e : H a = some (.ins C dx fs)) {y : V} {u : Value} (ry : RelV y u) (hb : PySem.W.Looks (model X.prog X.w) s.heap (typeOf u) tb) (hn : PySem.W.notFirst X.K C tb = true)
    (h : sp [.ref a, y] H (fun z H' => ∃ b, z = .bl b ∧ Q (.bl b) H') (WE W σ)) : wpAny (model X.prog X.w) X.A (compareOp .Eq (.ref a) u) (EP X pins σ Q) X.xe s := by
  obtain ⟨ox, od, J⟩ := inst_of I e
  have one : wpAny (model X.prog X.w) X.A (tryCompare (.ref a) "__eq__" u) (fun z s' => ∃ v, z = some v ∧ EP X pins σ Q v s') X.xe s := by
    unfold tryCompare
    refine wpAny_bind (PySem.W.ifBound_K I.kIn J hm.at_ hm.fn (thn (r.go (vs := [.ref a, y]) I (.cons rfl (.cons ry .nil)) h) fun v s1 ⟨z, H1, I1, rz, b, ez, q⟩ => ?_))
    subst ez
    cases rz
    exact wpAny_pure ⟨_, rfl, .bl b, H1, I1, rfl, q⟩
  show wpAny _ _ (richCompare .Eq (.ref a) u) _ _ _
  unfold richCompare
  simp only [oneThing_ref]
  refine wpAny_holding (wpAny_bind (wpAny_cRoomFor hu ?_))
  refine wpAny_bind (J.type.here (wpAny_bind (hb.here ?_)))
  have fin : wpAny (model X.prog X.w) X.A (tryCompare (.ref a) "__eq__" u) (fun z s' => ∃ v, z = some v ∧ EP X pins σ Q v s') X.xe s := one
  split
  · rename_i q
    have e2 : PySem.W.subIn X.K tb (.ref C) = some false := by
      rcases Bool.or_eq_true_iff.mp hn with e2 | e2
      · rw [beq_iff_eq.mp e2] at q
        exact absurd q (by simp)
      · exact beq_iff_eq.mp e2
    refine wpAny_bind ((PySem.W.looks_subIn I.kIn e2).here ?_)
    simp only [Bool.false_eq_true, if_false]
    refine wpAny_bind (thn fin fun z s' ⟨v, ez, hq⟩ => ?_)
    subst ez
    exact wpAny_pure hq
  · refine wpAny_bind (wpAny_pure ?_)
    simp only [Bool.false_eq_true, if_false]
    refine wpAny_bind (thn fin fun z s' ⟨v, ez, hq⟩ => ?_)
    subst ez
    exact wpAny_pure hq
/-- o & v -/
theorem own_and (r : Runs X W k f fd ps sp) (hc : PySem.W.selfFirst X.K C = true) (hm : Meth X.K C "__and__" f) (I : Inv X pins σ H s) (e : H a = some (.ins C dx fs)) {b dy : Addr} {gs : List (Str × V)} (e2 : H b = some (.ins C dy gs))
    (h : sp [.ref a, .ref b] H (fun z H' => (∃ p, z = .ref p) ∧ Q z H') (WE W σ)) : wpAny (model X.prog X.w) X.A (binaryOp .BitAnd (.ref a) (.ref b)) (EP X pins σ Q) X.xe s := by
  obtain ⟨ox, od, J⟩ := inst_of I e
  obtain ⟨oy, od2, J2⟩ := inst_of I e2
  obtain ⟨mf, Ff⟩ := I.fr
  refine PySem.W.binop_K Ff I.ok.mod.kin J J2.type hc hm.at_ hm.fn (thn (r.go (vs := [.ref a, .ref b]) I (.cons rfl (.cons rfl .nil)) h) fun u s1 ⟨z, H1, I1, rz, ⟨p, ez⟩, q⟩ => ?_)
  subst ez
  cases rz
  exact ⟨.ref p, H1, I1, rfl, q⟩
end
/-! ### as expressions -/
section
variable {X : Cx} {T : Tx} {W : WX} {Γ : Nat → FS} {a b : Expr} {ta tb : TE} {pos : Pos}
/-- a two-place operation that looks at the slots -/
def OpS (X : Cx) (f : Value → Value → Sem Value) (r : L2.St → R2) : Prop :=
  ∀ (pins : List (Addr × Obj)) (s : Shared) (σ : L2.St) (H : Hp) (x y : V) (v u : Value) (Q : VK), Inv X pins σ H s → RelV x v → RelV y u → r σ x y H Q → wpAny (model X.prog X.w) X.A (f v u) (EP X pins σ Q) X.xe s
theorem pe_cmpS {op : CmpOp} {r : L2.St → R2} (ho : OpS X (compareOp op) r) (ha : PE X a ta) (hb : PE X b tb) (hm : behindInMarks op b = false) : PE X (.Compare a [op] [b] pos) (fun σ H Q => ta σ H fun x H1 => tb σ H1 fun y H2 => r σ x y H2 Q) :=
  ⟨fun pins s σ H Q I h => wpAny_Compare1 (binT ha hb I h fun v u s2 x y H2 I2 rx ry q => ho pins s2 σ H2 x y v u Q I2 rx ry q) hm⟩
theorem pt_cmpS {op : CmpOp} {r : L2.St → R2} (ho : OpS X (compareOp op) r) (ha : PE X a ta) (hb : PE X b tb) (hm : behindInMarks op b = false) : PT X (.Compare a [op] [b] pos) (fun σ H Q => ta σ H fun x H1 => tb σ H1 fun y H2 => r σ x y H2 fun z H3 => ∃ k, z = .bl k ∧ Q k H3) := by
  refine ⟨fun pins s σ H Q I h => wpAny_isTrue_Compare1 (binT ha hb I h fun v u s2 x y H2 I2 rx ry q => ?_) hm⟩
  refine thn (ho pins s2 σ H2 x y v u _ I2 rx ry q) fun c s3 ⟨z, H3, I3, r3, k, e, q3⟩ => ?_
  subst e
  cases r3
  exact wpAny_truthy_bool ⟨H3, I3, q3⟩
theorem pe_opS {op : Operator} {r : L2.St → R2} (ho : OpS X (binaryOp op) r) (ha : PE X a ta) (hb : PE X b tb) : PE X (.BinOp a op b pos) (fun σ H Q => ta σ H fun x H1 => tb σ H1 fun y H2 => r σ x y H2 Q) :=
  ⟨fun pins s σ H Q I h => wpAny_BinOp (binT ha hb I h fun v u s2 x y H2 I2 rx ry q => ho pins s2 σ H2 x y v u Q I2 rx ry q)⟩
theorem pe_unS {op : UnaryOp} {r : L2.St → V → Hp → VK → Prop} (ho : ∀ pins s σ H x v Q, Inv X pins σ H s → RelV x v → r σ x H Q → wpAny (model X.prog X.w) X.A (unaryOp op v) (EP X pins σ Q) X.xe s) (ha : PE X a ta) : PE X (.UnaryOp op a pos) (fun σ H Q => ta σ H fun x H1 => r σ x H1 Q) :=
  ⟨fun pins s σ H Q I h => UnaryOp_ (thn (ha.run pins s σ H _ I h) fun v s1 ⟨x, H1, I1, r1, q1⟩ => ho pins s1 σ H1 x v Q I1 r1 q1)⟩
variable {k fi c : Nat} {f : Addr} {fd : FuncData} {ps : List Str} {ia ib : IE}
abbrev SpF (T : Tx) (Γ : Nat → FS) (ps : List Str) (fi : Nat) : Sp := spF T ps.length (Γ fi)
def rIn (T : Tx) (Γ : Nat → FS) (W : WX) (ps : List Str) (fi c : Nat) (g : Bool → Bool) : L2.St → R2 := fun σ x y H Q => ∃ a dx fs, y = .ref a ∧ H a = some (.ins (T.cl c) dx fs) ∧ SpF T Γ ps fi [.ref a, x] H (fun z H' => ∃ b, z = .bl b ∧ Q (.bl (g b)) H') (WE W σ)
theorem os_in (r : Runs X W k f fd ps (SpF T Γ ps fi)) (hm : Meth X.K (T.cl c) "__contains__" f) : OpS X (compareOp .In) (rIn T Γ W ps fi c id) := fun pins s σ H x y v u Q I rx ry ⟨a, dx, fs, ey, e, h⟩ => by
  subst ey
  cases ry
  exact wpAny_bind (thn (own_in r hm I e rx id h) fun b s1 q => wpAny_pure q)
theorem os_nin (r : Runs X W k f fd ps (SpF T Γ ps fi)) (hm : Meth X.K (T.cl c) "__contains__" f) : OpS X (compareOp .NotIn) (rIn T Γ W ps fi c not) := fun pins s σ H x y v u Q I rx ry ⟨a, dx, fs, ey, e, h⟩ => by
  subst ey
  cases ry
  exact wpAny_bind (thn (own_in r hm I e rx not h) fun b s1 q => wpAny_pure q)
def rEqO (X : Cx) (T : Tx) (Γ : Nat → FS) (W : WX) (ps : List Str) (fi c : Nat) : L2.St → R2 := fun σ x y H Q => ∃ a dx fs t, x = .ref a ∧ H a = some (.ins (T.cl c) dx fs) ∧ TyX X.K H y t ∧ PySem.W.notFirst X.K (T.cl c) t = true ∧ SpF T Γ ps fi [.ref a, y] H (fun z H' => ∃ b, z = .bl b ∧ Q (.bl b) H') (WE W σ)
theorem os_eq (r : Runs X W k f fd ps (SpF T Γ ps fi)) (hu : X.A.units + 65 < cLine) (hm : Meth X.K (T.cl c) "__eq__" f) : OpS X (compareOp .Eq) (rEqO X T Γ W ps fi c) := fun pins s σ H x y v u Q I rx ry ⟨a, dx, fs, t, ex, e, ty, hn, h⟩ => by
  subst ex
  cases rx
  obtain ⟨P, kx, hP, _⟩ := kit_of I ry ty
  exact own_eq r (by omega) hm I e ry (kx.ty _ _ I.kIn hP) hn h
def rAnd (T : Tx) (Γ : Nat → FS) (W : WX) (ps : List Str) (fi c : Nat) : L2.St → R2 := fun σ x y H Q => ∃ a dx fs b dy gs, x = .ref a ∧ H a = some (.ins (T.cl c) dx fs) ∧ y = .ref b ∧ H b = some (.ins (T.cl c) dy gs) ∧ SpF T Γ ps fi [.ref a, .ref b] H (fun z H' => (∃ p, z = .ref p) ∧ Q z H') (WE W σ)
theorem os_and (r : Runs X W k f fd ps (SpF T Γ ps fi)) (hc : PySem.W.selfFirst X.K (T.cl c) = true) (hm : Meth X.K (T.cl c) "__and__" f) : OpS X (binaryOp .BitAnd) (rAnd T Γ W ps fi c) := fun pins s σ H x y v u Q I rx ry ⟨a, dx, fs, b, dy, gs, ex, e, ey, e2, h⟩ => by
  subst ex
  cases rx
  subst ey
  cases ry
  exact own_and r hc hm I e e2 h
/-- the promise of such a call, met -/
theorem dnb_in {g : Bool → Bool} {kk : Dk} (hk : (kk = .in_ ∧ g = id) ∨ (kk = .nin ∧ g = not)) (hA : Ar ps.length (Γ fi)) {ρ : Env} {σ : L2.St} {G H : Hp} {x y : Res} {v u : V} {Qp : Res → Env → Prop} {Ep : Xc → Env → Prop} {Q : VK} (R : Rep T ρ σ G H) (ox : OpdAt T G σ x v) (oy : OpdAt T G σ y u)
    (q : match rdR ρ (dunS kk x y) with | .obj c2 _ => (c2 = c ∧ dunO kk c (rdR ρ y)) ∧ callW Γ fi (dunA kk x y) ρ (fun z ρ5 => dunR kk z fun z2 => Qp z2 ρ5) Ep | _ => False)
    (hq : ∀ b ρ' G' H', Step (FpE ρ σ H) (FpE ρ' σ H') G H G' H' → Rep T ρ' σ G' H' → Qp (.val (.bl b)) ρ' → Q (.bl b) H') (he : dX T W ρ σ G H Ep) : rIn T Γ W ps fi c g σ v u H Q := by
  have e1 : dunS kk x y = y := by rcases hk with ⟨rfl, _⟩ | ⟨rfl, _⟩ <;> rfl
  have e2 : dunA kk x y = [y, x] := by rcases hk with ⟨rfl, _⟩ | ⟨rfl, _⟩ <;> rfl
  rw [e1] at q
  rw [e2] at q
  have dq := opd_dq R oy
  split at q
  · rename_i c2 fs ed
    rw [ed] at dq
    obtain ⟨⟨rfl, _⟩, q⟩ := q
    obtain ⟨a, dx, ws, rfl, h1, _, _⟩ := dq.obj R.sub
    refine ⟨a, dx, ws, rfl, h1, call_sp (vs := [.ref a, v]) R (.cons oy (.cons ox .nil)) hA q (fun r z ρ5 G5 H5 S5 R5 q5 => ?_) he⟩
    rcases hk with ⟨rfl, rfl⟩ | ⟨rfl, rfl⟩
    · cases r with
      | val d =>
        cases d with
        | bl b =>
          obtain ⟨R5, dz⟩ := R5
          cases dz
          exact ⟨b, rfl, hq b ρ5 G5 H5 S5 R5 q5⟩
        | _ => exact q5.elim
      | _ => exact q5.elim
    · cases r with
      | val d =>
        cases d with
        | bl b =>
          obtain ⟨R5, dz⟩ := R5
          cases dz
          exact ⟨b, rfl, hq (!b) ρ5 G5 H5 S5 R5 q5⟩
        | _ => exact q5.elim
      | _ => exact q5.elim
  · exact q.elim
theorem se_din {op : CmpOp} {g : Bool → Bool} {kk : Dk} (hk : (kk = .in_ ∧ g = id) ∨ (kk = .nin ∧ g = not)) (ho : OpS X (compareOp op) (rIn T Γ W ps fi c g)) (hA : Ar ps.length (Γ fi)) (ha : SE X T W Γ a ia) (hb : SE X T W Γ b ib) (hm : behindInMarks op b = false) : SE X T W Γ (.Compare a [op] [b] pos) (.dnb kk c fi ia ib) := by
  refine pe_weak (pe_cmpS ho (pe_opd ha) (pe_opd hb) hm) fun σ H Q ⟨ρ, G, Qp, Ep, R, w, hq, he⟩ => ?_
  refine ⟨ρ, G, _, Ep, R, w, fun x v ρ1 G1 H1 S1 R1 o1 q1 => ?_, he⟩
  refine ⟨ρ1, G1, _, Ep, R1, q1, fun y u ρ2 G2 H2 S2 R2 o2 q2 => ?_, he.next S1⟩
  exact dnb_in hk hA R2 (o1.mono S2.gs) o2 q2 (fun b ρ3 G3 H3 S3 R3 q3 => hq (.val (.bl b)) _ ρ3 G3 H3 ((S1.trans S2).trans S3) ⟨R3, rfl⟩ q3) (he.next (S1.trans S2))
theorem st_din {op : CmpOp} {g : Bool → Bool} {kk : Dk} (hk : (kk = .in_ ∧ g = id) ∨ (kk = .nin ∧ g = not)) (ho : OpS X (compareOp op) (rIn T Γ W ps fi c g)) (hA : Ar ps.length (Γ fi)) (ha : SE X T W Γ a ia) (hb : SE X T W Γ b ib) (hm : behindInMarks op b = false) : ST X T W Γ (.Compare a [op] [b] pos) (.dnb kk c fi ia ib) := by
  refine pt_weak (pt_cmpS ho (pe_opd ha) (pe_opd hb) hm) fun σ H Q ⟨ρ, G, Qp, Ep, R, w, hq, he⟩ => ?_
  refine ⟨ρ, G, _, Ep, R, w, fun x v ρ1 G1 H1 S1 R1 o1 q1 => ?_, he⟩
  refine ⟨ρ1, G1, _, Ep, R1, q1, fun y u ρ2 G2 H2 S2 R2 o2 q2 => ?_, he.next S1⟩
  exact dnb_in hk hA R2 (o1.mono S2.gs) o2 q2 (fun b ρ3 G3 H3 S3 R3 q3 => ⟨b, rfl, hq b ρ3 G3 H3 ((S1.trans S2).trans S3) R3 q3⟩) (he.next (S1.trans S2))
/-- types that a comparison meets -/
def tyNames : List String := ["NoneType", "int", "bool", "str", "tuple", "list", "dict"]
theorem ty_first (hK : X.K = T.K) (hn : ∀ t ∈ tyNames, PySem.W.notFirst X.K (T.cl c) (.type t) = true) {G H : Hp} {d : D} {v : V} (sg : Same G H) (hd : Dq T G H d v) (hk : dunO .eq c d) : ∃ t, TyX X.K H v t ∧ PySem.W.notFirst X.K (T.cl c) t = true := by
  rw [hK] at hn ⊢
  cases d with
  | bot => cases hk
  | exc _ _ => cases hk
  | dT _ => cases hk
  | non => cases hd.non; exact ⟨_, .base .non, hn _ (by decide)⟩
  | bl b => cases hd.bl; exact ⟨_, .base (.bl b), hn _ (by decide)⟩
  | int i => cases hd.int; exact ⟨_, .base (.int i), hn _ (by decide)⟩
  | str x => cases hd.str; exact ⟨_, .base (.str x), hn _ (by decide)⟩
  | tup ds =>
    obtain ⟨a, vs, rfl, h1, _, _⟩ := hd.tup sg
    refine ⟨.type "tuple", ?_, hn _ (by decide)⟩
    rcases h1 with (h1 | ⟨o, h1⟩) | h1
    · exact .base (.tup h1)
    · exact .fTuple h1
    · obtain ⟨o, its, n, e1, e2, _⟩ := h1
      exact .kTuple e1 e2
  | ftp ds =>
    obtain ⟨a, vs, rfl, h1, _, _⟩ := hd.ftp sg
    refine ⟨.type "tuple", ?_, hn _ (by decide)⟩
    rcases h1 with (h1 | ⟨o, h1⟩) | h1
    · exact .base (.tup h1)
    · exact .fTuple h1
    · obtain ⟨o, its, n, e1, e2, _⟩ := h1
      exact .kTuple e1 e2
  | lst ds =>
    obtain ⟨a, vs, rfl, h1, _⟩ := hd.lst sg
    refine ⟨.type "list", ?_, hn _ (by decide)⟩
    rcases h1 with (h1 | ⟨o, h1⟩) | ⟨o, its, n, e1, e2, _⟩
    · exact .base (.lst h1)
    · exact .base (.frz h1)
    · exact .kList e1 e2
  | dK kvs =>
    obtain ⟨a, vs, rfl, h1, _⟩ := hd.dK sg
    refine ⟨.type "dict", ?_, hn _ (by decide)⟩
    rcases h1 with h1 | ⟨o, h1⟩
    · exact .base (.dK h1)
    · exact .fDict h1
  | obj k fs =>
    obtain ⟨a, dx, ws, rfl, h1, h2, _⟩ := hd.obj sg
    cases (show k = c from hk)
    refine ⟨_, .base (.ins h1 h2.1.cl h2.1.ha h2.1.hn h2.1.htk h2.1.hm), ?_⟩
    unfold PySem.W.notFirst
    simp
theorem dnb_eq (hK : X.K = T.K) (hn : ∀ t ∈ tyNames, PySem.W.notFirst X.K (T.cl c) (.type t) = true) (hA : Ar ps.length (Γ fi)) {ρ : Env} {σ : L2.St} {G H : Hp} {x y : Res} {v u : V} {Qp : Res → Env → Prop} {Ep : Xc → Env → Prop} {Q : VK} (R : Rep T ρ σ G H) (ox : OpdAt T G σ x v) (oy : OpdAt T G σ y u)
    (q : match rdR ρ (dunS .eq x y) with | .obj c2 _ => (c2 = c ∧ dunO .eq c (rdR ρ y)) ∧ callW Γ fi (dunA .eq x y) ρ (fun z ρ5 => dunR .eq z fun z2 => Qp z2 ρ5) Ep | _ => False)
    (hq : ∀ b ρ' G' H', Step (FpE ρ σ H) (FpE ρ' σ H') G H G' H' → Rep T ρ' σ G' H' → Qp (.val (.bl b)) ρ' → Q (.bl b) H') (he : dX T W ρ σ G H Ep) : rEqO X T Γ W ps fi c σ v u H Q := by
  have qq : (match rdR ρ x with | .obj c2 _ => (c2 = c ∧ dunO .eq c (rdR ρ y)) ∧ callW Γ fi [x, y] ρ (fun z ρ5 => dunR .eq z fun z2 => Qp z2 ρ5) Ep | _ => False) := q
  have dq := opd_dq R ox
  split at qq
  · rename_i c2 fs ed
    rw [ed] at dq
    obtain ⟨⟨rfl, ho⟩, q9⟩ := qq
    obtain ⟨a, dx, ws, rfl, h1, _, _⟩ := dq.obj R.sub
    obtain ⟨t, ty, nf⟩ := ty_first hK hn R.sub (opd_dq R oy) ho
    refine ⟨a, dx, ws, t, rfl, h1, ty, nf, call_sp (vs := [.ref a, u]) R (.cons ox (.cons oy .nil)) hA q9 (fun r z ρ5 G5 H5 S5 R5 q5 => ?_) he⟩
    cases r with
    | val d =>
      cases d with
      | bl b =>
        obtain ⟨R5, dz⟩ := R5
        cases dz
        exact ⟨b, rfl, hq b ρ5 G5 H5 S5 R5 q5⟩
      | _ => exact q5.elim
    | _ => exact q5.elim
  · exact qq.elim
theorem se_deq (hK : X.K = T.K) (hn : ∀ t ∈ tyNames, PySem.W.notFirst X.K (T.cl c) (.type t) = true) (ho : OpS X (compareOp .Eq) (rEqO X T Γ W ps fi c)) (hA : Ar ps.length (Γ fi)) (ha : SE X T W Γ a ia) (hb : SE X T W Γ b ib) (hm : behindInMarks .Eq b = false) : SE X T W Γ (.Compare a [.Eq] [b] pos) (.dnb .eq c fi ia ib) := by
  refine pe_weak (pe_cmpS ho (pe_opd ha) (pe_opd hb) hm) fun σ H Q ⟨ρ, G, Qp, Ep, R, w, hq, he⟩ => ?_
  refine ⟨ρ, G, _, Ep, R, w, fun x v ρ1 G1 H1 S1 R1 o1 q1 => ?_, he⟩
  refine ⟨ρ1, G1, _, Ep, R1, q1, fun y u ρ2 G2 H2 S2 R2 o2 q2 => ?_, he.next S1⟩
  exact dnb_eq hK hn hA R2 (o1.mono S2.gs) o2 q2 (fun b ρ3 G3 H3 S3 R3 q3 => hq (.val (.bl b)) _ ρ3 G3 H3 ((S1.trans S2).trans S3) ⟨R3, rfl⟩ q3) (he.next (S1.trans S2))
theorem st_deq (hK : X.K = T.K) (hn : ∀ t ∈ tyNames, PySem.W.notFirst X.K (T.cl c) (.type t) = true) (ho : OpS X (compareOp .Eq) (rEqO X T Γ W ps fi c)) (hA : Ar ps.length (Γ fi)) (ha : SE X T W Γ a ia) (hb : SE X T W Γ b ib) (hm : behindInMarks .Eq b = false) : ST X T W Γ (.Compare a [.Eq] [b] pos) (.dnb .eq c fi ia ib) := by
  refine pt_weak (pt_cmpS ho (pe_opd ha) (pe_opd hb) hm) fun σ H Q ⟨ρ, G, Qp, Ep, R, w, hq, he⟩ => ?_
  refine ⟨ρ, G, _, Ep, R, w, fun x v ρ1 G1 H1 S1 R1 o1 q1 => ?_, he⟩
  refine ⟨ρ1, G1, _, Ep, R1, q1, fun y u ρ2 G2 H2 S2 R2 o2 q2 => ?_, he.next S1⟩
  exact dnb_eq hK hn hA R2 (o1.mono S2.gs) o2 q2 (fun b ρ3 G3 H3 S3 R3 q3 => ⟨b, rfl, hq b ρ3 G3 H3 ((S1.trans S2).trans S3) R3 q3⟩) (he.next (S1.trans S2))
theorem se_dand (ho : OpS X (binaryOp .BitAnd) (rAnd T Γ W ps fi c)) (hA : Ar ps.length (Γ fi)) (ha : SE X T W Γ a ia) (hb : SE X T W Γ b ib) : SE X T W Γ (.BinOp a .BitAnd b pos) (.dnb .band c fi ia ib) := by
  refine pe_weak (pe_opS ho (pe_opd ha) (pe_opd hb)) fun σ H Q ⟨ρ, G, Qp, Ep, R, w, hq, he⟩ => ?_
  refine ⟨ρ, G, _, Ep, R, w, fun x v ρ1 G1 H1 S1 R1 o1 q1 => ?_, he⟩
  refine ⟨ρ1, G1, _, Ep, R1, q1, fun y u ρ2 G2 H2 S2 R2 o2 q2 => ?_, he.next S1⟩
  have q : (match rdR ρ2 x with | .obj c2 _ => (c2 = c ∧ dunO .band c (rdR ρ2 y)) ∧ callW Γ fi [x, y] ρ2 (fun z ρ5 => dunR .band z fun z2 => Qp z2 ρ5) Ep | _ => False) := q2
  have dq := opd_dq R2 (o1.mono S2.gs)
  have dq2 := opd_dq R2 o2
  split at q
  · rename_i c2 fs ed
    rw [ed] at dq
    obtain ⟨⟨rfl, ho⟩, q⟩ := q
    obtain ⟨a, dx, ws, rfl, h1, _, _⟩ := dq.obj R2.sub
    have ho : (match rdR ρ2 y with | .obj c3 _ => c3 = c2 | _ => False) := ho
    split at ho
    · rename_i c3 gs eg
      subst ho
      rw [eg] at dq2
      obtain ⟨b', dy, zs, rfl, h2, _, _⟩ := dq2.obj R2.sub
      refine ⟨a, dx, ws, b', dy, zs, rfl, h1, rfl, h2, call_sp (vs := [.ref a, .ref b']) R2 (.cons (o1.mono S2.gs) (.cons o2 .nil)) hA q (fun r z ρ5 G5 H5 S5 R5 q5 => ?_) (he.next (S1.trans S2))⟩
      cases r with
      | val d => exact q5.elim
      | slot i => exact q5.elim
      | own cc =>
        cases cc with
        | obj c4 fs4 =>
          obtain ⟨p, hp⟩ : ∃ p, z = .ref p := by
            obtain ⟨_, R6⟩ := R5
            obtain ⟨p, e1, _⟩ := R6.own ρ5.length (.obj c4 fs4) get_last
            have hl : ρ5.length = σ.length := by simpa using R6.len
            rw [hl, get_last] at e1
            cases e1
            exact ⟨p, rfl⟩
          exact ⟨⟨p, hp⟩, hq _ z ρ5 G5 H5 ((S1.trans S2).trans S5) R5 q5⟩
        | _ => exact q5.elim
    · exact ho.elim
  · exact q.elim
theorem dnu_sp {kk : Dk} (hA : Ar ps.length (Γ fi)) {ρ : Env} {σ : L2.St} {G H : Hp} {x : Res} {v : V} {Qp : Res → Env → Prop} {Ep : Xc → Env → Prop} {Q : VK} (R : Rep T ρ σ G H) (ox : OpdAt T G σ x v)
    (q : match rdR ρ x with | .obj c2 _ => c2 = c ∧ callW Γ fi [x] ρ (fun z ρ3 => dunR kk z fun z2 => Qp z2 ρ3) Ep | _ => False)
    (hq : ∀ r z ρ' G' H', Step (FpE ρ σ H) (FpR ρ' σ r z H') G H G' H' → RepR T ρ' σ r z G' H' → (dunR kk r fun z2 => Qp z2 ρ') → Q z H') (he : dX T W ρ σ G H Ep) : ∃ a dx fs, v = .ref a ∧ H a = some (.ins (T.cl c) dx fs) ∧ SpF T Γ ps fi [.ref a] H Q (WE W σ) := by
  have dq := opd_dq R ox
  split at q
  · rename_i c2 fs ed
    rw [ed] at dq
    obtain ⟨rfl, q⟩ := q
    obtain ⟨a, dx, ws, rfl, h1, _, _⟩ := dq.obj R.sub
    exact ⟨a, dx, ws, rfl, h1, call_sp (vs := [.ref a]) R (.cons ox .nil) hA q hq he⟩
  · exact q.elim
theorem se_dneg (r : Runs X W k f fd ps (SpF T Γ ps fi)) (hm : Meth X.K (T.cl c) "__neg__" f) (hA : Ar ps.length (Γ fi)) (ha : SE X T W Γ a ia) : SE X T W Γ (.UnaryOp .USub a pos) (.dnu .neg c fi ia) := by
  refine pe_weak (pe_unS (r := fun σ x H Q => ∃ a dx fs, x = .ref a ∧ H a = some (.ins (T.cl c) dx fs) ∧ SpF T Γ ps fi [.ref a] H Q (WE W σ)) (fun pins s σ H x v Q I rx ⟨a, dx, fs, ex, e, h⟩ => ?_) (pe_opd ha)) fun σ H Q ⟨ρ, G, Qp, Ep, R, w, hq, he⟩ => ?_
  · subst ex
    cases rx
    exact own_neg r hm I e h
  · refine ⟨ρ, G, _, Ep, R, w, fun x v ρ1 G1 H1 S1 R1 o1 q1 => ?_, he⟩
    exact dnu_sp (kk := .neg) hA R1 o1 q1 (fun r z ρ3 G3 H3 S3 R3 q3 => hq r z ρ3 G3 H3 (S1.trans S3) R3 q3) (he.next S1)
theorem se_dlen {p : Pos} (r : Runs X W k f fd ps (SpF T Γ ps fi)) (hm : Meth X.K (T.cl c) "__len__" f) (hA : Ar ps.length (Γ fi)) (hg : Gl X "len") (hmg : X.mg "len" = none) (ha : SE X T W Γ a ia) (hs : isStar a = false) : SE X T W Γ (.Call (.Name "len" p) [a] [] pos) (.dnu .len c fi ia) := by
  have h1 : starEach [a] X.env = (false, eval a X.env) :: starEach [] X.env := by cases a <;> first | rfl | cases hs
  refine ⟨fun pins s σ H Q I ⟨ρ, G, Qp, Ep, R, w, hq, he⟩ => ?_⟩
  refine wpAny_Call_Name_kw (ld_blt I hg hmg rfl ?_ (by decide) (by decide))
  have hA2 := (pa_cons (pe_opd ha) pa_nil h1).run pos pins s σ H (fun vs H1 => ∃ a dx fs, vs = [.ref a] ∧ H1 a = some (.ins (T.cl c) dx fs) ∧ SpF T Γ ps fi [.ref a] H1 (fun z H' => ∃ n : Int, z = .int n ∧ (0 ≤ n ∧ n < 2 ^ 62) ∧ Q (.int n) H') (WE W σ)) I
    ⟨ρ, G, _, Ep, R, w, fun x v ρ1 G1 H1 S1 R1 o1 q1 => by
      obtain ⟨a, dx, fs, e1, e2, e3⟩ := dnu_sp (kk := .len) (c := c) (fi := fi) (ps := ps) (Q := fun z H' => ∃ n : Int, z = .int n ∧ (0 ≤ n ∧ n < 2 ^ 62) ∧ Q (.int n) H') hA R1 o1 q1 (fun r z ρ3 G3 H3 S3 R3 q3 => by
        cases r with
        | val d =>
          cases d with
          | int n =>
            obtain ⟨R3, dz⟩ := R3
            cases dz
            exact ⟨n, rfl, q3.1, hq (.val (.int n)) _ ρ3 G3 H3 (S1.trans S3) ⟨R3, rfl⟩ q3.2⟩
          | _ => exact q3.elim
        | _ => exact q3.elim) (he.next S1)
      exact ⟨a, dx, fs, by rw [e1], e2, e3⟩, he⟩
  refine PyProof.Rows.callWith_builtin1 (thn hA2 fun us s1 ⟨vs, H1, I1, rv, a, dx, fs, ev, e, q⟩ => ?_) h1 rfl
  subst ev
  obtain ⟨u, rfl, ru⟩ := vals1 rv
  cases ru
  exact own_len r hm I1 e q
/-! ### keywords -/
abbrev SK (X : Cx) (T : Tx) (W : WX) (Γ : Nat → FS) (kws : List Keyword) (irs : List IE) : Prop := PK X kws (dA T W (wpL Γ irs))
theorem pk_weak {kws : List Keyword} {t t' : TA} (h : PK X kws t) (k : ∀ σ H Q, t' σ H Q → t σ H Q) : PK X kws t' := ⟨fun pos pins s σ H Q I q => h.run pos pins s σ H Q I (k σ H Q q)⟩
theorem sk_nil : SK X T W Γ [] [] := pk_weak pk_nil fun σ H Q ⟨ρ, G, Qp, Ep, R, w, hq, he⟩ => hq [] [] ρ G H (Step.refl fun _ h => h) R .nil w
theorem sk_cons {nm : Option Str} {e : Expr} {kpos : Pos} {kws : List Keyword} {i : IE} {is : List IE} (h : SE X T W Γ e i) (t : SK X T W Γ kws is) : SK X T W Γ (⟨nm, e, kpos⟩ :: kws) (i :: is) := by
  refine pk_weak (pk_cons (pe_opd h) t) fun σ H Q ⟨ρ, G, Qp, Ep, R, w, hq, he⟩ => ?_
  refine ⟨ρ, G, _, Ep, R, w, fun x v ρ1 G1 H1 S1 R1 o1 q1 => ?_, he⟩
  refine ⟨ρ1, G1, _, Ep, R1, q1, fun rs vs ρ2 G2 H2 S2 R2 o2 q2 => ?_, he.next S1⟩
  exact hq (x :: rs) (v :: vs) ρ2 G2 H2 (S1.trans S2) R2 (.cons (o1.mono S2.gs) o2) q2
theorem wpL_app : ∀ (is js : List IE) (ρ : Env) (Q : List Res → Env → Prop) (E : Xc → Env → Prop), wpL Γ (is ++ js) ρ Q E = wpL Γ is ρ (fun rs ρ1 => wpL Γ js ρ1 (fun zs ρ2 => Q (rs ++ zs) ρ2) E) E
  | [], js, ρ, Q, E => rfl
  | i :: is, js, ρ, Q, E => by
    show wp Γ i ρ (fun r ρ1 => opdR r ρ1 fun x ρ2 => wpL Γ (is ++ js) ρ2 (fun rs ρ3 => Q (x :: rs) ρ3) E) E = wp Γ i ρ (fun r ρ1 => opdR r ρ1 fun x ρ2 => wpL Γ is ρ2 (fun rs ρ3 => wpL Γ js ρ3 (fun zs ρ4 => Q ((x :: rs) ++ zs) ρ4) E) E) E
    congr 1
    funext r ρ1
    congr 1
    funext x ρ2
    rw [wpL_app is js ρ2]
    rfl
theorem opds_app2 {σ : L2.St} {G : Hp} : ∀ {rs zs : List Res} {vs us : List V}, OpdsAt T G σ rs vs → OpdsAt T G σ zs us → OpdsAt T G σ (rs ++ zs) (vs ++ us)
  | [], _, _, _, .nil, h => h
  | _ :: _, _, _ :: _, _, .cons h t, q => .cons h (opds_app2 t q)
theorem opds_mono {σ : L2.St} {G G' : Hp} (e : Same G G') : ∀ {rs : List Res} {vs : List V}, OpdsAt T G σ rs vs → OpdsAt T G' σ rs vs
  | _, _, .nil => .nil
  | _, _, .cons h t => .cons (h.mono e) (opds_mono e t)
theorem run_fnK {n : Nat} {ks : List Str} {sp : Sp} {pins : List (Addr × Obj)} {σ : L2.St} {H : Hp} {s : Shared} {Q : VK} {us ws : List Value} {vs zs : List V} {E : XK} (F : FnOk X.prog X.w X.K X.mg X.base (L2.CX X.prog X.w) k f fd ps sp) (hr : Room k X.A) (hb : KBn X.K fd ps n ks (· ++ ·) (· ++ ·)) (hx : PassesAt (L2.CX X.prog X.w) X σ E)
    (I : Inv X pins σ H s) (r : Vals vs us) (rz : Vals zs ws) (l1 : vs.length = n) (l2 : zs.length = ks.length) (h : sp (vs ++ zs) H Q E) : wpAny (model X.prog X.w) X.A (call (.ref f) us (ks.zip ws)) (EP X pins σ Q) X.xe s := by
  have r2 : Vals (vs ++ zs) (us ++ ws) := hb.rel r rz
  refine wpAny_call (codeAny_mono (F.run X.A X.stack s H ⟨us, ks.zip ws⟩ (us ++ ws) (vs ++ zs) Q E hr I.env0 (hb.to s us ws I.kIn (r.length.symm.trans l1) (rz.length.symm.trans l2)) r2 h) fun r s' hq => ?_)
  cases r with
  | error e => exact hx pins H s e s' I hq
  | ok fl =>
    cases fl with
    | ret u => exact I.after hq
    | next => exact False.elim hq
    | brk => exact False.elim hq
    | cont => exact False.elim hq
theorem se_callK {n : Nat} {ks : List Str} {x : Str} {e : Expr} {es : List Expr} {kws : List Keyword} {irs jrs : List IE} {p : Pos} (F : FnOk X.prog X.w X.K X.mg X.base (L2.CX X.prog X.w) k f fd ps (SpF T Γ ps fi)) (hr : Room k X.A) (hg : Gl X x) (hm : X.mg x = some (.ref f)) (hk : PySem.W.keepIn X.K (.ref f) = true)
    (hb : KBn X.K fd ps n ks (· ++ ·) (· ++ ·)) (tk : Takes X W) (hA : Ar ps.length (Γ fi)) (ha : PA X (e :: es) (fun σ H Q => dA T W (wpL Γ irs) σ H fun vs H1 => vs.length = n → Q vs H1)) (hkw : SK X T W Γ kws jrs) (hps : ps.length = n + ks.length)
    (hall : (backToKw pos (keywordEach kws X.env)).all (·.1.isSome) = true) (hks : (backToKw pos (keywordEach kws X.env)).filterMap (·.1) = ks)
    (hdb : (x == ("__debug__" : Str)) = false) (hst : starEach (e :: es) X.env = (false, eval e X.env) :: starEach es X.env)
    (hpl : ((backTo pos (starEach (e :: es) X.env)).any (·.1) || (backToKw pos (keywordEach kws X.env)).any (·.1.isNone)) = false) :
    SE X T W Γ (.Call (.Name x p) (e :: es) kws pos) (.call fi (irs ++ jrs) []) := by
  refine ⟨fun pins s σ H Q I ⟨ρ, G, Qp, Ep, R, w, hq, he⟩ => ?_⟩
  refine wpAny_Call_Name_kw (ld_glob I hg hm ?_ hdb)
  have w1 : wpL Γ (irs ++ jrs) ρ (fun rs ρ1 => callW Γ fi (rs ++ ([] : List D).map Res.val) ρ1 Qp Ep) Ep := w
  rw [wpL_app] at w1
  refine PySem.W.callWith_KW (h₀ := X.base) I.ok.mod.kin hk hall (thn (ha.run pos pins s σ H (fun vs H1 => vs.length = n ∧ dA T W (wpL Γ jrs) σ H1 fun zs H2 => spF T ps.length (Γ fi) (vs ++ zs) H2 Q (WE W σ)) I ?_) fun us s1 ⟨vs, H1, I1, r, ln, q⟩ => ?_) hpl hst
  · refine ⟨ρ, G, _, Ep, R, w1, fun rs vs ρ1 G1 H1 S1 R1 o1 q1 hl => ⟨hl, ?_⟩, he⟩
    refine ⟨ρ1, G1, _, Ep, R1, q1, fun zs us ρ2 G2 H2 S2 R2 o2 q2 => ?_, he.next S1⟩
    refine call_sp R2 (opds_app2 (opds_mono S2.gs o1) o2) hA (by simpa using q2) (fun r v ρ3 G3 H3 S3 R3 q3 => hq r v ρ3 G3 H3 ((S1.trans S2).trans S3) R3 q3) (he.next (S1.trans S2))
  · refine thn (hkw.run pos pins s1 σ H1 _ I1 q) fun ws s2 ⟨zs, H2, I2, rz, q2⟩ => ⟨I2.kIn, ?_⟩
    rw [hks]
    have l2 : (vs ++ zs).length = ps.length := F.len _ _ _ _ q2
    exact run_fnK F hr hb (passAt tk σ) I2 r rz ln (by rw [List.length_append, ln, hps] at l2; omega) q2
end
end Mi
namespace Mi
open PySem PySem.Spec PyProof.Rows L2
/-! ### what the text shows -/
theorem star_cons {e : Expr} {es : List Expr} {env : PySem.Env} (h : isStar e = false) : starEach (e :: es) env = (false, eval e env) :: starEach es env := by
  cases e <;> first | rfl | cases h
theorem asg_cons {e : Expr} {es : List Expr} {env : PySem.Env} (h : isStar e = false) : assignEach (e :: es) env = (false, assign e env) :: assignEach es env := by
  cases e <;> first | rfl | cases h
theorem not_marks {e : Expr} {op : CmpOp} (h : isSet e = false) : behindInMarks op e = false := by
  cases e <;> first | rfl | cases h
theorem fold_pure {e : Expr} (h : isSet e = false) : ∀ env x, foldedSetIterable e env x = pure x := by
  cases e <;> first | (intro _ _; rfl) | cases h
theorem plain_ix {e : Expr} (h : isSlice e = false) : PlainIx e := by
  cases e <;> first | (intro _ _; rfl) | cases h
theorem base_eq {e : Expr} {f : Str} {env : PySem.Env} (h : isCall0 e = false) : attributeBase e f env (eval e env) = eval e env := by
  unfold attributeBase
  split
  · cases h
  · rfl
theorem idx_get : ∀ {N : List Str} {x : Str} {i : Nat}, idxS x N = some i → N[i]? = some x
  | [], _, _, h => by cases h
  | y :: ys, x, i, h => by
    unfold idxS at h
    split at h
    · rename_i e
      cases h
      rw [e]; rfl
    · cases q : idxS x ys with
      | none => rw [q] at h; cases h
      | some j =>
        rw [q] at h
        cases h
        show (y :: ys)[j + 1]? = some x
        rw [List.getElem?_cons_succ]
        exact idx_get q
/-! ### a context -/
structure FnAt (T : Tx) (Γ : Nat → FS) (X : Cx) (u : Value) (k1 : Nat) (f : Addr) (fi : Nat) (dds : List D) : Prop where
  ex : ∃ (k : Nat) (fd : FuncData) (ps : List Str) (dsv : List Value) (dvs : List V), FnOk X.prog X.w X.K X.mg X.base (L2.CX X.prog X.w) k f fd ps (spF T ps.length (Γ fi)) ∧ Room (k + k1) X.A ∧ Binds X.K fd ps dsv ∧ Vals dvs dsv ∧ (∀ G, Dps T G dds dvs) ∧ Ar ps.length (Γ fi)
/-- the same of a call with keywords -/
structure FnKw (T : Tx) (Γ : Nat → FS) (X : Cx) (f : Addr) (n : Nat) (ks : List Str) (fi : Nat) : Prop where
  ex : ∃ (k : Nat) (fd : FuncData) (ps : List Str), FnOk X.prog X.w X.K X.mg X.base (L2.CX X.prog X.w) k f fd ps (spF T ps.length (Γ fi)) ∧ Room k X.A ∧ KBn X.K fd ps n ks (· ++ ·) (· ++ ·) ∧ ps.length = n + ks.length ∧ Ar ps.length (Γ fi)
def dkName : Dk → Str
  | .in_ => "__contains__" | .nin => "__contains__" | .eq => "__eq__" | .band => "__and__" | .neg => "__neg__" | .len => "__len__"
def bltNames : List Str := ["len", "abs", "max", "min", "int", "list", "tuple", "dict", "sum", "all", "any", "isinstance", "range", "enumerate", "zip"]
structure Base (T : Tx) (Γ : Nat → FS) (C : Cc) (X : Cx) : Prop where
  K : X.K = T.K
  calm : X.calm = true
  un : X.A.units + 65 < cLine
  fn : ∀ x m fi dds, C.fn x m = some (fi, dds) → ∃ f, X.mg x = some (.ref f) ∧ PySem.W.keepIn X.K (.ref f) = true ∧ FnAt T Γ X (.ref f) 0 f fi dds
  nw : ∀ x m c fi dds, C.nw x m = some (c, fi, dds) → ∃ f, Mk X.K (T.cl c) f ∧ ObOk T c ∧ X.mg x = some (.ref (T.cl c)) ∧ FnAt T Γ X (.ref f) 1 f fi dds
  mt : ∀ nm m c fi dds, C.mt nm m = some (c, fi, dds) → ∃ f, L2.Cls X.K (T.cl c) ∧ Meth X.K (T.cl c) nm f ∧ FnAt T Γ X (.ref f) 0 f fi dds
  con : ∀ x d, C.con x = some d → ∃ v u, X.mg x = some u ∧ RelV v u ∧ ∀ G, Dp T G d v
  cls : ∀ x k, C.cls x = some k → ∃ cv u, IsiC T k cv u ∧ RelV cv u ∧ (X.mg x = some u ∨ (X.mg x = none ∧ bootBuiltins x = some u))
  blt : ∀ x ∈ bltNames, X.mg x = none
  na : ∀ c f, f ∈ C.na c → f ∈ T.na c
  dn : ∀ c k fi, C.dn c k = some fi → ∃ f, Meth X.K (T.cl c) (dkName k) f ∧ FnAt T Γ X (.ref f) 1 f fi [] ∧ PySem.W.selfFirst X.K (T.cl c) = true ∧ ∀ t ∈ tyNames, PySem.W.notFirst X.K (T.cl c) (.type t) = true
  kf : ∀ x n ks fi, C.kf x n ks = some fi → ∃ f, X.mg x = some (.ref f) ∧ PySem.W.keepIn X.K (.ref f) = true ∧ FnKw T Γ X f n ks fi
structure OkC (T : Tx) (Γ : Nat → FS) (C : Cc) (X : Cx) : Prop where
  N : X.N = C.N
  nd : C.N.Nodup
  sc : X.env.scope = C.sc
  fnc : ∀ x, C.fnc x = true → X.fn x = true
  kd : X.env.scope.kind = .function
  bs : Base T Γ C X
section
variable {T : Tx} {Γ : Nat → FS} {C : Cc} {X : Cx} {W : WX}
theorem OkC.vis {x : Str} {i : Nat} (h : OkC T Γ C X) (e : slotV C x = some i) : X.N[i]? = some x ∧ Vis X.env.scope x ∧ (x == ("__debug__" : Str)) = false ∧ (x == ("__classdict__" : Str)) = false := by
  unfold slotV at e
  split at e
  · rename_i q
    simp only [Bool.and_eq_true, Bool.not_eq_true'] at q
    obtain ⟨q1, q2⟩ := q
    unfold oddN at q2
    simp only [Bool.or_eq_false_iff] at q2
    refine ⟨by rw [h.N]; exact idx_get e, ?_, q2.1.1, q2.1.2⟩
    rw [h.sc]
    unfold visB at q1
    unfold Vis
    split at q1
    · rename_i z; exact .inl z
    · rename_i z; exact .inr (.inl z)
    · rename_i z; exact .inr (.inr z)
    · cases q1
  · cases e
theorem OkC.loc {x : Str} {i : Nat} (h : OkC T Γ C X) (e : slotL C x = some i) : X.N[i]? = some x ∧ Loc X.env.scope x ∧ (X.fn x = true ∨ X.env.scope.names.lookup x = some .local) := by
  unfold slotL at e
  split at e
  · rename_i q
    simp only [Bool.and_eq_true, Bool.not_eq_true'] at q
    refine ⟨by rw [h.N]; exact idx_get e, ?_⟩
    rw [h.sc]
    have q1 := q.1
    unfold locB at q1
    unfold L2.Loc
    split at q1
    · rename_i z; exact ⟨.inl z, .inr z⟩
    · rename_i z; exact ⟨.inr z, .inl (h.fnc x q1)⟩
    · cases q1
  · cases e
theorem OkC.gl {x : Str} (h : OkC T Γ C X) (e : glB C.sc x = true) : Gl X x := by
  unfold glB at e
  have e2 := eq_of_beq e
  show X.env.scope.names.lookup x = _
  rw [h.sc]; exact e2
theorem odd_no {x : Str} (h : oddN x = false) : (x == ("__debug__" : Str)) = false ∧ x ≠ "__name__" := by
  unfold oddN at h
  simp only [Bool.or_eq_false_iff] at h
  exact ⟨h.1.1, fun z => by have := h.2; rw [z] at this; simp at this⟩
/-- within a comprehension -/
theorem OkC.blk {scope : Scope} {s : Shared} {H : Hp} {A : Addr} {cl : List (Str × Addr)} {fp : List Addr} (h : OkC T Γ C X) (hk : scope.kind = .function) : OkC T Γ (C.blk scope) (X.blk s H scope (compEnvC scope cl A X.env) fp) where
  N := h.N
  nd := h.nd
  sc := by
    show relabel scope X.env = relS scope C.sc
    unfold relabel relS Env.kindOf
    rw [h.sc]
  fnc := fun x e => e
  kd := hk
  bs := ⟨h.bs.K, h.bs.calm, h.bs.un, fun x m fi dds e => let ⟨f, p1, p2, p3⟩ := h.bs.fn x m fi dds e; ⟨f, p1, p2, ⟨p3.ex⟩⟩, fun x m c fi dds e => let ⟨f, p1, p2, p3, p4⟩ := h.bs.nw x m c fi dds e; ⟨f, p1, p2, p3, ⟨p4.ex⟩⟩,
    fun nm m c fi dds e => let ⟨f, p1, p2, p3⟩ := h.bs.mt nm m c fi dds e; ⟨f, p1, p2, ⟨p3.ex⟩⟩, h.bs.con, h.bs.cls, h.bs.blt, h.bs.na, fun c k fi e => let ⟨f, p1, p2, p3⟩ := h.bs.dn c k fi e; ⟨f, p1, ⟨p2.ex⟩, p3⟩, fun x n ks fi e => let ⟨f, p1, p2, p3⟩ := h.bs.kf x n ks fi e; ⟨f, p1, p2, ⟨p3.ex⟩⟩⟩
theorem OkC.ft (h : OkC T Γ C X) : OkC T Γ { C with ftp := true } X := ⟨h.N, h.nd, h.sc, h.fnc, h.kd, ⟨h.bs.K, h.bs.calm, h.bs.un, h.bs.fn, h.bs.nw, h.bs.mt, h.bs.con, h.bs.cls, h.bs.blt, h.bs.na, h.bs.dn, h.bs.kf⟩⟩
theorem Base.runs (h : Base T Γ C X) (tk : Takes X W) {c : Nat} {k : Dk} {fi : Nat} (e : C.dn c k = some fi) : ∃ (f : Addr) (kk : Nat) (fd : FuncData) (ps : List Str), Meth X.K (T.cl c) (dkName k) f ∧ Runs X W kk f fd ps (SpF T Γ ps fi) ∧ Ar ps.length (Γ fi) ∧ PySem.W.selfFirst X.K (T.cl c) = true ∧ ∀ t ∈ tyNames, PySem.W.notFirst X.K (T.cl c) (.type t) = true := by
  obtain ⟨f, m, ⟨k, fd, ps, dsv, dvs, F, hr, hb, hd, hdd, hA⟩, p3⟩ := h.dn c k fi e
  have e1 : dvs = [] := hdd fun _ => none
  subst e1
  cases hd
  exact ⟨f, k, fd, ps, m, ⟨F, hr, hb, tk⟩, hA, p3⟩
theorem blk_ok {scope : Scope} (h : OkC T Γ C X) (e : blkB C.N C.sc scope = true) : BlkOk X.N X.env.scope scope (ownOf C.N scope) where
  kind := by
    unfold blkB at e
    simp only [Bool.and_eq_true] at e
    exact eq_of_beq e.1.1
  uniq := fun y hy => by
    unfold blkB at e
    simp only [Bool.and_eq_true, List.all_eq_true] at e
    exact eq_of_beq (e.1.2 y hy)
  ix := fun p hp => by
    unfold ownOf at hp
    obtain ⟨⟨y, k⟩, _, hq⟩ := List.mem_filterMap.mp hp
    simp only at hq
    split at hq
    · cases q : idxS y C.N with
      | none => rw [q] at hq; cases hq
      | some i => rw [q] at hq; cases hq; rw [h.N]; exact idx_get q
    · cases hq
  free := fun y hy hf => by
    unfold blkB at e
    simp only [Bool.and_eq_true, List.all_eq_true, Bool.or_eq_true, Bool.not_eq_true', beq_eq_false_iff_ne] at e
    rw [h.sc]
    rcases e.2 y hy with (z | z) | z
    · exact absurd hf z
    · exact .inl (eq_of_beq z)
    · exact .inr (eq_of_beq z)
  own := fun y hy hk => by
    rw [h.N]
    cases q : idxS y.1 C.N with
    | none =>
      refine .inr fun hm => ?_
      have none_of : ∀ {N : List Str} {x : Str}, idxS x N = none → x ∉ N := fun {N} => by
        induction N with
        | nil => intro x _; simp
        | cons z N ih =>
          intro x e
          unfold idxS at e
          split at e
          · cases e
          · rename_i hne
            cases q2 : idxS x N with
            | none => simp only [List.mem_cons, not_or]; exact ⟨fun e => hne e.symm, ih q2⟩
            | some j => rw [q2] at e; cases e
      exact none_of q hm
    | some i =>
      refine .inl (List.mem_map.mpr ⟨(y.1, i), List.mem_filterMap.mpr ⟨y, hy, ?_⟩, rfl⟩)
      obtain ⟨y1, y2⟩ := y
      simp only at hk q ⊢
      rw [q]
      rcases hk with hk | hk <;> subst hk <;> rfl
/-! ### tests that are choices -/
theorem pt_ifx {c a b : Expr} {tc ta tb : TT} {pos : Pos} (hc : PT X c tc) (ha : PT X a ta) (hb : PT X b tb) : PT X (.IfExp c a b pos) (fun σ H Q => tc σ H fun k H1 => if k = true then ta σ H1 Q else tb σ H1 Q) := by
  refine ⟨fun pins s σ H Q I h => ?_⟩
  show wpAny _ _ (isTrue c X.env (eval c X.env) >>= fun t => if t = true then isTrue a X.env (eval a X.env) else isTrue b X.env (eval b X.env)) _ _ _
  refine wpAny_bind (thn (hc.run pins s σ H _ I h) fun k s1 ⟨H1, I1, q⟩ => ?_)
  cases k with
  | true => exact ha.run pins s1 σ H1 Q I1 q
  | false => exact hb.run pins s1 σ H1 Q I1 q
theorem st_ifx {c a b : Expr} {ic ia ib : IE} {pos : Pos} (hc : ST X T W Γ c ic) (ha : ST X T W Γ a ia) (hb : ST X T W Γ b ib) : ST X T W Γ (.IfExp c a b pos) (.ifx ic ia ib) := by
  refine pt_weak (pt_ifx hc ha hb) fun σ H Q ⟨ρ, G, Qp, Ep, R, w, hq, he⟩ => ?_
  refine ⟨ρ, G, fun k ρ1 => if k = true then wp Γ ia ρ1 (fun r ρ2 => opdR r ρ2 fun x ρ3 => truW (rdR ρ3 x) fun b => Qp b ρ3) Ep else wp Γ ib ρ1 (fun r ρ2 => opdR r ρ2 fun x ρ3 => truW (rdR ρ3 x) fun b => Qp b ρ3) Ep, Ep, R, w, fun k ρ1 G1 H1 S1 R1 q1 => ?_, he⟩
  cases k with
  | true => exact iteT ⟨ρ1, G1, Qp, Ep, R1, q1, fun b ρ2 G2 H2 S2 R2 q2 => hq b ρ2 G2 H2 (S1.trans S2) R2 q2, he.next S1⟩
  | false => exact iteF ⟨ρ1, G1, Qp, Ep, R1, q1, fun b ρ2 G2 H2 S2 R2 q2 => hq b ρ2 G2 H2 (S1.trans S2) R2 q2, he.next S1⟩
/-! ### method calls in the text -/
theorem mc_form {o : Expr} {m : Str} {es : List Expr} {ap pos : Pos} {env : PySem.Env} (h0 : isCall0 o = false) (hl : (ap.endLine == pos.line) = true) (hn : es.length < 28) (hp : (backTo pos (starEach es env)).all (fun x => !x.1) = true) :
    eval (.Call (.Attribute o m ap) es [] pos) env = (do
      let ov ← eval o env
      standAt ap.atName
      let (f, first) ← holding [ov] (getMethod ov m (do return (← importBound o env).getD true))
      callWith pos f first (backTo pos (starEach es env)) (backToKw pos (keywordEach [] env))) := by
  rw [arm_eval_Call, base_eq h0]
  have hf : methodCallForm (es.length + ([] : List Keyword).length) (backTo pos (starEach es env)) (backToKw pos (keywordEach [] env)) = true := by
    unfold methodCallForm
    rw [hp]
    simp [keywordEach, backToKw]
    omega
  have hpos : methodCallPos true o env ap pos = pure pos := by unfold methodCallPos; simp [hl]
  unfold methodCall
  rw [hf]
  unfold calleeOf
  simp only [if_true, hpos]
  rfl
theorem star_all {env : PySem.Env} {pos : Pos} : ∀ {es : List Expr}, (∀ e ∈ es, isStar e = false) → (backTo pos (starEach es env)).all (fun x => !x.1) = true ∧ (backTo pos (starEach es env)).any (·.1) = false := by
  have back : ∀ (l : List (Bool × Sem Value)), l.all (fun x => !x.1) = true → (backTo pos l).all (fun x => !x.1) = true := fun l hl => by
    unfold backTo
    rw [List.all_map]
    exact hl
  intro es h
  have h1 : (starEach es env).all (fun x => !x.1) = true := by
    induction es with
    | nil => rfl
    | cons e es ih =>
      rw [star_cons (h e (by simp))]
      have := ih fun z hz => h z (by simp [hz])
      simpa using this
  refine ⟨back _ h1, ?_⟩
  have := back _ h1
  rw [Bool.eq_false_iff]
  intro z
  obtain ⟨q, hq, e⟩ := List.any_eq_true.mp z
  have := List.all_eq_true.mp this q hq
  rw [e] at this
  cases this
end
end Mi
namespace Mi
open PySem PySem.Spec PyProof.Rows L2
section
variable {T : Tx} {Γ : Nat → FS} {C : Cc} {X : Cx} {W : WX}
theorem blt_ft {x : Str} {m : Nat} {b : Blt} {e : Expr} {es : List Expr} {ta : TA} {p pos : Pos} (ft : Bool) (h : OkC T Γ C X) (hb : bltOf x m = some b) (hg : Gl X x) (ha : PA X (e :: es) ta) (h1 : starEach (e :: es) X.env = (false, eval e X.env) :: starEach es X.env) (h2 : (backTo pos (starEach es X.env)).any (·.1) = false)
    (hall : ∀ {b : Blt}, bltOf x m = some b → PE X (.Call (.Name x p) (e :: es) [] pos) (tCB (rCall T (bltW b)) ta)) : PE X (.Call (.Name x p) (e :: es) [] pos) (tCB (rCall T (bltW (ftB ft b))) ta) := by
  by_cases q : b = .tuple1 ∧ ft = true
  · obtain ⟨rfl, rfl⟩ := q
    have hx : x = "tuple" := by
      by_cases hx : x = "tuple"
      · exact hx
      · exfalso
        unfold bltOf at hb
        simp only [hx, false_and, if_false] at hb
        have key : ∀ {c : Prop} [Decidable c] {p : Blt} {r : Option Blt}, (if c then some p else r) = some .tuple1 → p ≠ .tuple1 → r = some .tuple1 := fun {c _ p r} h hp => by
          by_cases hc : c
          · rw [if_pos hc] at h; cases h; exact absurd rfl hp
          · rw [if_neg hc] at h; exact h
        repeat (replace hb := key hb (by decide))
        cases hb
    subst hx
    exact pe_callTy (T := "tuple") (call_blt h.bs.K h.bs.calm .ftuple1) hg (h.bs.blt _ (by decide)) rfl ha (by decide) (by decide) h1 h2
  · have e : ftB ft b = b := by
      cases b <;> first | rfl | skip
      cases ft <;> first | rfl | exact absurd ⟨rfl, rfl⟩ q
    rw [e]
    exact hall hb
theorem blt_call {x : Str} {m : Nat} {b : Blt} {e : Expr} {es : List Expr} {ta : TA} {p pos : Pos} (h : OkC T Γ C X) (hb : bltOf x m = some b) (hg : Gl X x) (ha : PA X (e :: es) ta) (h1 : starEach (e :: es) X.env = (false, eval e X.env) :: starEach es X.env) (h2 : (backTo pos (starEach es X.env)).any (·.1) = false) :
    PE X (.Call (.Name x p) (e :: es) [] pos) (tCB (rCall T (bltW b)) ta) := by
  have fB : ∀ {x : Str} {b : Blt} {id : String}, bltV b = .builtin id → x ∈ bltNames → bootBuiltins x = some (.builtin id) → x ≠ "__name__" → (x == ("__debug__" : Str)) = false → Gl X x → PE X (.Call (.Name x p) (e :: es) [] pos) (tCB (rCall T (bltW b)) ta) := fun {x b id} e1 e2 e3 e4 e5 hg =>
    pe_callB (by rw [← e1]; exact call_blt h.bs.K h.bs.calm b) hg (h.bs.blt x e2) e3 ha e4 e5 h1 h2
  have fT : ∀ {x : Str} {b : Blt} {id : String}, bltV b = .type id → x ∈ bltNames → bootBuiltins x = some (.type id) → x ≠ "__name__" → (x == ("__debug__" : Str)) = false → Gl X x → PE X (.Call (.Name x p) (e :: es) [] pos) (tCB (rCall T (bltW b)) ta) := fun {x b id} e1 e2 e3 e4 e5 hg =>
    pe_callTy (by rw [← e1]; exact call_blt h.bs.K h.bs.calm b) hg (h.bs.blt x e2) e3 ha e4 e5 h1 h2
  unfold bltOf at hb
  by_cases q : x = "len" ∧ m = 1
  · rw [if_pos q] at hb
    cases hb
    obtain ⟨rfl, _⟩ := q
    exact fB rfl (by decide) rfl (by decide) (by decide) hg
  rw [if_neg q] at hb
  clear q
  by_cases q : x = "abs" ∧ m = 1
  · rw [if_pos q] at hb
    cases hb
    obtain ⟨rfl, _⟩ := q
    exact fB rfl (by decide) rfl (by decide) (by decide) hg
  rw [if_neg q] at hb
  clear q
  by_cases q : x = "max" ∧ m = 1
  · rw [if_pos q] at hb
    cases hb
    obtain ⟨rfl, _⟩ := q
    exact fB rfl (by decide) rfl (by decide) (by decide) hg
  rw [if_neg q] at hb
  clear q
  by_cases q : x = "min" ∧ m = 1
  · rw [if_pos q] at hb
    cases hb
    obtain ⟨rfl, _⟩ := q
    exact fB rfl (by decide) rfl (by decide) (by decide) hg
  rw [if_neg q] at hb
  clear q
  by_cases q : x = "max" ∧ m = 2
  · rw [if_pos q] at hb
    cases hb
    obtain ⟨rfl, _⟩ := q
    exact fB rfl (by decide) rfl (by decide) (by decide) hg
  rw [if_neg q] at hb
  clear q
  by_cases q : x = "min" ∧ m = 2
  · rw [if_pos q] at hb
    cases hb
    obtain ⟨rfl, _⟩ := q
    exact fB rfl (by decide) rfl (by decide) (by decide) hg
  rw [if_neg q] at hb
  clear q
  by_cases q : x = "int" ∧ m = 1
  · rw [if_pos q] at hb
    cases hb
    obtain ⟨rfl, _⟩ := q
    exact fT rfl (by decide) rfl (by decide) (by decide) hg
  rw [if_neg q] at hb
  clear q
  by_cases q : x = "list" ∧ m = 1
  · rw [if_pos q] at hb
    cases hb
    obtain ⟨rfl, _⟩ := q
    exact fT rfl (by decide) rfl (by decide) (by decide) hg
  rw [if_neg q] at hb
  clear q
  by_cases q : x = "tuple" ∧ m = 1
  · rw [if_pos q] at hb
    cases hb
    obtain ⟨rfl, _⟩ := q
    exact fT rfl (by decide) rfl (by decide) (by decide) hg
  rw [if_neg q] at hb
  clear q
  by_cases q : x = "dict" ∧ m = 1
  · rw [if_pos q] at hb
    cases hb
    obtain ⟨rfl, _⟩ := q
    exact fT rfl (by decide) rfl (by decide) (by decide) hg
  rw [if_neg q] at hb
  clear q
  by_cases q : x = "sum" ∧ m = 1
  · rw [if_pos q] at hb
    cases hb
    obtain ⟨rfl, _⟩ := q
    exact fB rfl (by decide) rfl (by decide) (by decide) hg
  rw [if_neg q] at hb
  clear q
  by_cases q : x = "all" ∧ m = 1
  · rw [if_pos q] at hb
    cases hb
    obtain ⟨rfl, _⟩ := q
    exact fB rfl (by decide) rfl (by decide) (by decide) hg
  rw [if_neg q] at hb
  clear q
  by_cases q : x = "any" ∧ m = 1
  · rw [if_pos q] at hb
    cases hb
    obtain ⟨rfl, _⟩ := q
    exact fB rfl (by decide) rfl (by decide) (by decide) hg
  rw [if_neg q] at hb
  clear q
  cases hb
end
end Mi
namespace Mi
open PySem PySem.Spec PyProof.Rows L2
section
variable {T : Tx} {Γ : Nat → FS} {C : Cc} {X : Cx} {W : WX}
/-- each its own -/
inductive SAll (X : Cx) (T : Tx) (W : WX) (Γ : Nat → FS) : List Expr → List IE → Prop
  | nil : SAll X T W Γ [] []
  | cons {e : Expr} {es : List Expr} {i : IE} {is : List IE} : SE X T W Γ e i → isStar e = false → SAll X T W Γ es is → SAll X T W Γ (e :: es) (i :: is)
theorem SAll.sa {es : List Expr} {is : List IE} (h : SAll X T W Γ es is) : SA X T W Γ es is := by
  induction h with
  | nil => exact sa_nil
  | cons h1 h2 _ ih => exact sa_cons h1 ih (star_cons h2)
theorem SAll.frz {es : List Expr} {is : List IE} (h : SAll X T W Γ es is) : SAll X T W Γ es (is.map (frzK C)) := by
  induction h with
  | nil => exact .nil
  | @cons e es i is h1 h2 _ ih =>
    refine .cons ?_ h2 ih
    cases i with
    | var j =>
      show SE X T W Γ e (if C.keep.contains j = true then .frz (.var j) else .var j)
      split
      · exact se_frz h1
      · exact h1
    | _ => exact h1
theorem SAll.frzC {es : List Expr} {is : List IE} (h : SAll X T W Γ es is) : SAll X T W Γ es (is.map (frzC C)) := by
  induction h with
  | nil => exact .nil
  | @cons e es i is h1 h2 _ ih =>
    refine .cons ?_ h2 ih
    cases i with
    | var j =>
      show SE X T W Γ e (if (C.keep.contains j && !C.pas.contains j) = true then .frz (.var j) else .var j)
      split
      · exact se_frz h1
      · exact h1
    | _ => exact h1
theorem SAll.star {es : List Expr} {is : List IE} (h : SAll X T W Γ es is) : ∀ e ∈ es, isStar e = false := by
  induction h with
  | nil => intro e he; cases he
  | cons h1 h2 _ ih =>
    intro e he
    rcases List.mem_cons.mp he with he | he
    · rw [he]; exact h2
    · exact ih e he
theorem SAll.len {es : List Expr} {is : List IE} (h : SAll X T W Γ es is) : is.length = es.length := by
  induction h with
  | nil => rfl
  | cons _ _ _ ih => simp [ih]
/-- with their number -/
theorem SAll.pal {es : List Expr} {is : List IE} (h : SAll X T W Γ es is) : PA X es (fun σ H Q => dA T W (wpL Γ is) σ H fun vs H1 => vs.length = es.length → Q vs H1) := by
  induction h with
  | nil => exact pa_weak pa_nil fun σ H Q ⟨ρ, G, Qp, Ep, R, w, hq, he⟩ => hq [] [] ρ G H (Step.refl fun _ h => h) R .nil w rfl
  | cons h1 h2 _ ih =>
    refine pa_weak (pa_cons (pe_opd h1) ih (star_cons h2)) fun σ H Q ⟨ρ, G, Qp, Ep, R, w, hq, he⟩ => ?_
    refine ⟨ρ, G, _, Ep, R, w, fun x v ρ1 G1 H1 S1 R1 o1 q1 => ?_, he⟩
    exact ⟨ρ1, G1, _, Ep, R1, q1, fun rs vs ρ2 G2 H2 S2 R2 o2 q2 hl => hq (x :: rs) (v :: vs) ρ2 G2 H2 (S1.trans S2) R2 (.cons (o1.mono S2.gs) o2) q2 (by simp [hl]), he.next S1⟩
theorem SAll.sk : ∀ {kws : List Keyword} {is : List IE}, SAll X T W Γ (kws.map (·.value)) is → SK X T W Γ kws is
  | [], _, .nil => sk_nil
  | ⟨_, _, _⟩ :: kws, _, .cons h1 _ t => sk_cons h1 (SAll.sk t)
theorem kw_some {env : PySem.Env} {pos : Pos} : ∀ {kws : List Keyword}, kws.all (fun k => k.arg.isSome) = true → (backToKw pos (keywordEach kws env)).all (·.1.isSome) = true ∧ (backToKw pos (keywordEach kws env)).filterMap (·.1) = kws.filterMap (·.arg) ∧ (backToKw pos (keywordEach kws env)).any (·.1.isNone) = false
  | [], _ => ⟨rfl, rfl, rfl⟩
  | ⟨a, v, p⟩ :: kws, h => by
    simp only [List.all_cons, Bool.and_eq_true] at h
    obtain ⟨q1, q2, q3⟩ := kw_some (env := env) (pos := pos) h.2
    have e : backToKw pos (keywordEach (⟨a, v, p⟩ :: kws) env) = (a, do let v ← eval v env; standAt pos; pure v) :: backToKw pos (keywordEach kws env) := rfl
    rw [e]
    refine ⟨?_, ?_, ?_⟩
    · rw [List.all_cons, q1, Bool.and_true]; exact h.1
    · rw [List.filterMap_cons, List.filterMap_cons, q2]
    · rw [List.any_cons, q3, Bool.or_false]
      cases a with
      | none => cases h.1
      | some _ => rfl
/-- what the compiled form promises -/
structure Snd (T : Tx) (Γ : Nat → FS) (n : Nat) : Prop where
  e : ∀ {C e ir}, cE n C e = some ir → ∀ {X W}, OkC T Γ C X → Takes X W → SE X T W Γ e ir ∧ ST X T W Γ e ir ∧ (∀ op vs pos, e = .BoolOp op vs pos → SW X T W Γ e ir)
  l : ∀ {C es is}, cL n C es = some is → ∀ {X W}, OkC T Γ C X → Takes X W → SAll X T W Γ es is
  d : ∀ {C ks vs is}, cD n C ks vs = some is → ∀ {X W pos}, OkC T Γ C X → Takes X W → SDp X T W Γ pos ks vs is
  o : ∀ {C e i}, cO n C e = some i → ∀ {X W}, OkC T Γ C X → Takes X W → SO X T W Γ e i
  f : ∀ {C e i}, cF n C e = some i → ∀ {X}, OkC T Γ C X → SF X T Γ e i
  i : ∀ {C tg e i}, cI n C tg e = some i → ∀ {X W}, OkC T Γ C X → Takes X W → SI X T W Γ tg e i
  t : ∀ {C e i}, cT n C e = some i → ∀ {X}, OkC T Γ C X → PG X e (dTg T i)
  ts : ∀ {C es is}, cTs n C es = some is → ∀ {X}, OkC T Γ C X → PGs X es (dTgs T is) ∧ (assignEach es X.env).length = is.length ∧ (assignEach es X.env).findIdx? (·.1) = none
theorem takes0' {X : Cx} : Takes X W0 := fun _ _ x => by
  obtain ⟨_, _, _, _, _, _, _, _, _, _, _, _, _, _, _, _, z⟩ := x
  exact z.elim
theorem snd_0 : Snd T Γ 0 where
  e := fun h => by unfold cE at h; cases h
  l := fun h => by unfold cL at h; cases h
  d := fun h => by unfold cD at h; cases h
  o := fun h => by unfold cO at h; cases h
  f := fun h => by unfold cF at h; cases h
  i := fun h => by unfold cI at h; cases h
  t := fun h => by unfold cT at h; cases h
  ts := fun h => by unfold cTs at h; cases h
theorem bind2 {α β : Type} {o : Option α} {f : α → Option β} {b : β} (h : o.bind f = some b) : ∃ a, o = some a ∧ f a = some b := by
  cases o with
  | none => cases h
  | some a => exact ⟨a, rfl, h⟩
theorem snd_l {n : Nat} (S : Snd T Γ n) {C : Cc} {es : List Expr} {is : List IE} (h : cL (n + 1) C es = some is) {X : Cx} {W : WX} (ok : OkC T Γ C X) (tk : Takes X W) : SAll X T W Γ es is := by
  cases es with
  | nil => unfold cL at h; cases h; exact .nil
  | cons e es =>
    unfold cL at h
    split at h
    · cases h
    · rename_i hs
      obtain ⟨i, h1, h⟩ := bind2 h
      obtain ⟨is', h2, h⟩ := bind2 h
      cases h
      exact .cons (S.e h1 ok tk).1 (by simpa using hs) (S.l h2 ok tk)
theorem snd_d {n : Nat} (S : Snd T Γ n) {C : Cc} {ks : List (Option Expr)} {vs : List Expr} {is : List IE} (h : cD (n + 1) C ks vs = some is) {X : Cx} {W : WX} {pos : Pos} (ok : OkC T Γ C X) (tk : Takes X W) : SDp X T W Γ pos ks vs is := by
  unfold cD at h
  split at h
  · cases h
  · cases h; exact sd_nil
  · rename_i n' C' k ks' v vs' heq
    cases heq
    obtain ⟨ik, h1, h⟩ := bind2 h
    obtain ⟨iv, h2, h⟩ := bind2 h
    obtain ⟨is', h3, h⟩ := bind2 h
    cases h
    exact sd_cons (S.e h1 ok tk).1 (S.e h2 ok tk).1 (S.d h3 ok tk)
  · cases h
theorem snd_o {n : Nat} (S : Snd T Γ n) {C : Cc} {e : Option Expr} {i : Option IE} (h : cO (n + 1) C e = some i) {X : Cx} {W : WX} (ok : OkC T Γ C X) (tk : Takes X W) : SO X T W Γ e i := by
  cases e with
  | none => unfold cO at h; cases h; exact so_none
  | some e =>
    unfold cO at h
    obtain ⟨ie, h1, h⟩ := bind2 h
    cases h
    exact so_some (S.e h1 ok tk).1
theorem snd_f {n : Nat} (S : Snd T Γ n) {C : Cc} {e : List Expr} {i : Option IE} (h : cF (n + 1) C e = some i) {X : Cx} (ok : OkC T Γ C X) : SF X T Γ e i := by
  unfold cF at h
  split at h
  · cases h
  · cases h; exact sf_none
  · rename_i heq
    cases heq
    obtain ⟨ie, h1, h⟩ := bind2 h
    cases h
    exact sf_one (S.e h1 ok takes0').2.1
  · cases h
theorem snd_t {n : Nat} (S : Snd T Γ n) {C : Cc} {e : Expr} {i : Tg} (h : cT (n + 1) C e = some i) {X : Cx} (ok : OkC T Γ C X) : PG X e (dTg T i) := by
  unfold cT at h
  split at h
  · obtain ⟨j, h1, h⟩ := bind2 h
    cases h
    obtain ⟨p1, p2, p3⟩ := ok.loc h1
    exact sg_name (by rw [ok.N]; exact ok.nd) p1 p2 p3
  · obtain ⟨ts, h1, h⟩ := bind2 h
    cases h
    obtain ⟨p1, p2, p3⟩ := S.ts h1 ok
    exact sg_tup ok.bs.K ok.bs.calm p1 p2 p3
  · cases h
theorem snd_ts {n : Nat} (S : Snd T Γ n) {C : Cc} {es : List Expr} {is : List Tg} (h : cTs (n + 1) C es = some is) {X : Cx} (ok : OkC T Γ C X) : PGs X es (dTgs T is) ∧ (assignEach es X.env).length = is.length ∧ (assignEach es X.env).findIdx? (·.1) = none := by
  cases es with
  | nil => unfold cTs at h; cases h; exact ⟨sgs_nil, rfl, rfl⟩
  | cons e es =>
    unfold cTs at h
    split at h
    · cases h
    · rename_i hs
      have hs : isStar e = false := by simpa using hs
      obtain ⟨i, h1, h⟩ := bind2 h
      obtain ⟨is', h2, h⟩ := bind2 h
      cases h
      obtain ⟨p1, p2, p3⟩ := S.ts h2 ok
      refine ⟨sgs_cons (S.t h1 ok) p1 (by rw [asg_cons hs]; rfl), by rw [asg_cons hs]; simp [p2], ?_⟩
      rw [asg_cons hs, List.findIdx?_cons]
      simp [p3]
theorem snd_i {n : Nat} (S : Snd T Γ n) {C : Cc} {tg e : Expr} {i : II} (h : cI (n + 1) C tg e = some i) {X : Cx} {W : WX} (ok : OkC T Γ C X) (tk : Takes X W) : SI X T W Γ tg e i := by
  have gen : ∀ {e : Expr}, ((cE n C e).bind fun ie => some (II.it ie)) = some i → SI X T W Γ tg e i := fun {e} h => by
    obtain ⟨ie, h1, h⟩ := bind2 h
    cases h
    exact si_it ok.bs.K (S.e h1 ok tk).1
  unfold cI at h
  split at h
  · rename_i x p a pos
    split at h
    · rename_i q
      obtain ⟨rfl, hg⟩ := q
      split at h
      · cases h
      · rename_i hs
        have hs : isStar a = false := by simpa using hs
        obtain ⟨ia, h1, h⟩ := bind2 h
        cases h
        exact si_rng (ok.gl hg) (ok.bs.blt _ (by decide)) (sa_cons (S.e h1 ok tk).1 sa_nil (star_cons hs)) (star_cons hs)
    · split at h
      · rename_i q
        obtain ⟨rfl, hg⟩ := q
        split at h
        · split at h
          · cases h
          · rename_i hs
            have hs : isStar a = false := by simpa using hs
            obtain ⟨ia, h1, h⟩ := bind2 h
            cases h
            exact si_enum ok.bs.K (ok.gl hg) (ok.bs.blt _ (by decide)) (sa_cons (se_frz (S.e h1 ok tk).1) sa_nil (star_cons hs)) (star_cons hs)
        · cases h
      · exact gen h
  · rename_i x p a b pos
    split at h
    · rename_i q
      obtain ⟨rfl, hg⟩ := q
      split at h
      · cases h
      · rename_i hs
        simp only [Bool.or_eq_true, not_or, Bool.not_eq_true] at hs
        obtain ⟨ia, h1, h⟩ := bind2 h
        obtain ⟨ib, h2, h⟩ := bind2 h
        cases h
        have e1 : starEach [b] X.env = [(false, eval b X.env)] := star_cons hs.2
        have e2 : starEach [a, b] X.env = [(false, eval a X.env), (false, eval b X.env)] := by rw [star_cons hs.1, e1]
        exact si_rng2 (ok.gl hg) (ok.bs.blt _ (by decide)) (sa_cons (S.e h1 ok tk).1 (sa_cons (S.e h2 ok tk).1 sa_nil (star_cons hs.2)) (star_cons hs.1)) e2 e1
    · split at h
      · rename_i q
        obtain ⟨rfl, hg⟩ := q
        split at h
        · split at h
          · cases h
          · rename_i hs
            simp only [Bool.or_eq_true, not_or, Bool.not_eq_true] at hs
            obtain ⟨ia, h1, h⟩ := bind2 h
            obtain ⟨ib, h2, h⟩ := bind2 h
            cases h
            exact si_zip ok.bs.K (ok.gl hg) (ok.bs.blt _ (by decide)) (sa_cons (se_frz (S.e h1 ok tk).1) (sa_cons (se_frz (S.e h2 ok tk).1) sa_nil (star_cons hs.2)) (star_cons hs.1)) (star_cons hs.1) (by rw [star_cons hs.2]; rfl)
        · cases h
      · exact gen h
  · rename_i o m ap pos
    split at h
    · rename_i hm
      subst hm
      split at h
      · split at h
        · cases h
        · rename_i hs
          simp only [Bool.or_eq_true, not_or, Bool.not_eq_true', Bool.not_eq_true, Bool.not_eq_false] at hs
          obtain ⟨io, h1, h⟩ := bind2 h
          cases h
          exact si_items ok.bs.K (S.e h1 ok tk).1 (base_eq hs.1) hs.2
      · cases h
    · exact gen h
  · exact gen h
end
end Mi
namespace Mi
open PySem PySem.Spec PyProof.Rows L2
section
variable {T : Tx} {Γ : Nat → FS} {C : Cc} {X : Cx} {W : WX}
theorem dp_flat {d : D} {v : V} {G : Hp} (h : Dp T G d v) : Dp T G d v := h
theorem snd_e {n : Nat} (S : Snd T Γ n) {C : Cc} {e : Expr} {ir : IE} (h : cE (n + 1) C e = some ir) {X : Cx} {W : WX} (ok : OkC T Γ C X) (tk : Takes X W) : SE X T W Γ e ir ∧ ST X T W Γ e ir ∧ (∀ op vs pos, e = .BoolOp op vs pos → SW X T W Γ e ir) := by
  have K := ok.bs.K
  have un := ok.bs.un
  have fin : ∀ {e : Expr} {ir : IE}, SE X T W Γ e ir → (∀ whole, isTrue e X.env whole = (do let v ← whole; standAt e.pos; holding [v] (truthy v))) → (∀ op vs pos, e ≠ .BoolOp op vs pos) → SE X T W Γ e ir ∧ ST X T W Γ e ir ∧ (∀ op vs pos, e = .BoolOp op vs pos → SW X T W Γ e ir) :=
    fun {e ir} h1 h2 h3 => ⟨h1, st_val h1 h2, fun op vs pos z => absurd z (h3 op vs pos)⟩
  unfold cE at h
  split at h
  · -- Name
    rename_i x pos
    split at h
    · rename_i i hi
      cases h
      obtain ⟨p1, p2, p3, p4⟩ := ok.vis hi
      exact fin (se_var p1 p2 p3 p4) (fun _ => rfl) (fun _ _ _ z => nomatch z)
    · split at h
      · rename_i q
        simp only [Bool.and_eq_true, Bool.not_eq_true'] at q
        cases hc : C.con x with
        | none => rw [hc] at h; cases h
        | some d =>
          rw [hc] at h
          cases h
          obtain ⟨v, u, m1, m2, m3⟩ := ok.bs.con x d hc
          exact fin (se_con (pe_glob (ok.gl q.1) m1 m2 (odd_no q.2).1) m3) (fun _ => rfl) (fun _ _ _ z => nomatch z)
      · cases h
  · cases h; exact fin (se_con pe_int fun _ => rfl) (fun _ => rfl) (fun _ _ _ z => nomatch z)
  · cases h; exact fin (se_con pe_bl fun _ => rfl) (fun _ => rfl) (fun _ _ _ z => nomatch z)
  · cases h; exact fin (se_con pe_non fun _ => rfl) (fun _ => rfl) (fun _ _ _ z => nomatch z)
  · split at h
    · rename_i q
      cases h
      exact fin (se_con pe_str fun _ => ⟨rfl, q⟩) (fun _ => rfl) (fun _ _ _ z => nomatch z)
    · cases h
  · -- BinOp
    obtain ⟨ia, h1, h⟩ := bind2 h
    obtain ⟨ib, h2, h⟩ := bind2 h
    split at h
    · rename_i c f hd
      cases h
      unfold bDn at hd
      split at hd
      · unfold dnOf at hd
        obtain ⟨c', _, hd⟩ := bind2 hd
        obtain ⟨f', hf, hd⟩ := bind2 hd
        cases hd
        obtain ⟨g, kk, fd, ps, m1, rn, hA, sf, nf⟩ := ok.bs.runs tk hf
        exact fin (se_dand (os_and rn sf m1) hA (S.e h1 ok tk).1 (S.e h2 ok tk).1) (fun _ => rfl) (fun _ _ _ z => nomatch z)
      · cases hd
    · cases h
      exact fin (se_bin K (S.e h1 ok tk).1 (S.e h2 ok tk).1) (fun _ => rfl) (fun _ _ _ z => nomatch z)
  · obtain ⟨ia, h1, h⟩ := bind2 h
    split at h
    · rename_i c f hd
      cases h
      unfold dnOf at hd
      obtain ⟨c', _, hd⟩ := bind2 hd
      obtain ⟨f', hf, hd⟩ := bind2 hd
      cases hd
      obtain ⟨g, kk, fd, ps, m1, rn, hA, sf, nf⟩ := ok.bs.runs tk hf
      exact fin (se_dneg rn m1 hA (S.e h1 ok tk).1) (fun _ => rfl) (fun _ _ _ z => nomatch z)
    · cases h
      exact fin (se_neg (S.e h1 ok tk).1) (fun _ => rfl) (fun _ _ _ z => nomatch z)
  · obtain ⟨ia, h1, h⟩ := bind2 h
    cases h
    exact ⟨se_not (S.e h1 ok tk).1, st_not (S.e h1 ok tk).2.1, fun _ _ _ z => nomatch z⟩
  · -- BoolOp [a]
    rename_i op a pos
    obtain ⟨p1, p2, _⟩ := S.e h ok tk
    have sw : SW X T W Γ (.BoolOp op [a] pos) ir := by
      cases op with
      | And => exact sw_and1 p2
      | Or => exact sw_or1 p2
    exact ⟨se_one p1, sw.pt, fun _ _ _ _ => sw⟩
  · rename_i a b r pos
    obtain ⟨ia, h1, h⟩ := bind2 h
    obtain ⟨ib, h2, h⟩ := bind2 h
    cases h
    have sw := sw_and (S.e h1 ok tk).2.1 ((S.e h2 ok tk).2.2 _ _ _ rfl)
    exact ⟨se_and (S.e h1 ok tk).1 (S.e h2 ok tk).1, sw.pt, fun _ _ _ _ => sw⟩
  · rename_i a b r pos
    obtain ⟨ia, h1, h⟩ := bind2 h
    obtain ⟨ib, h2, h⟩ := bind2 h
    cases h
    have sw := sw_or (S.e h1 ok tk).2.1 ((S.e h2 ok tk).2.2 _ _ _ rfl)
    exact ⟨se_or (S.e h1 ok tk).1 (S.e h2 ok tk).1, sw.pt, fun _ _ _ _ => sw⟩
  · -- IfExp
    obtain ⟨ic, h1, h⟩ := bind2 h
    obtain ⟨ia, h2, h⟩ := bind2 h
    obtain ⟨ib, h3, h⟩ := bind2 h
    cases h
    exact ⟨se_ifx (S.e h1 ok tk).2.1 (S.e h2 ok tk).1 (S.e h3 ok tk).1, st_ifx (S.e h1 ok tk).2.1 (S.e h2 ok tk).2.1 (S.e h3 ok tk).2.1, fun _ _ _ z => nomatch z⟩
  · split at h
    · cases h
    · rename_i hs
      obtain ⟨ia, h1, h⟩ := bind2 h
      obtain ⟨ib, h2, h⟩ := bind2 h
      have hm := fun op => not_marks (op := op) (by simpa using hs)
      split at h
      · rename_i k c f hd
        cases h
        unfold cDn at hd
        split at hd
        · obtain ⟨⟨c0, f0⟩, hd0, hd⟩ := bind2 hd
          cases hd
          unfold dnOf at hd0
          obtain ⟨c', _, hd0⟩ := bind2 hd0
          obtain ⟨f', hf, hd0⟩ := bind2 hd0
          cases hd0
          obtain ⟨g, kk, fd, ps, m1, rn, hA, sf, nf⟩ := ok.bs.runs tk hf
          exact ⟨se_din (.inl ⟨rfl, rfl⟩) (os_in rn m1) hA (S.e h1 ok tk).1 (S.e h2 ok tk).1 (hm _), st_din (.inl ⟨rfl, rfl⟩) (os_in rn m1) hA (S.e h1 ok tk).1 (S.e h2 ok tk).1 (hm _), fun _ _ _ z => nomatch z⟩
        · obtain ⟨⟨c0, f0⟩, hd0, hd⟩ := bind2 hd
          cases hd
          unfold dnOf at hd0
          obtain ⟨c', _, hd0⟩ := bind2 hd0
          obtain ⟨f', hf, hd0⟩ := bind2 hd0
          cases hd0
          obtain ⟨g, kk, fd, ps, m1, rn, hA, sf, nf⟩ := ok.bs.runs tk hf
          exact ⟨se_din (.inr ⟨rfl, rfl⟩) (os_nin rn m1) hA (S.e h1 ok tk).1 (S.e h2 ok tk).1 (hm _), st_din (.inr ⟨rfl, rfl⟩) (os_nin rn m1) hA (S.e h1 ok tk).1 (S.e h2 ok tk).1 (hm _), fun _ _ _ z => nomatch z⟩
        · obtain ⟨⟨c0, f0⟩, hd0, hd⟩ := bind2 hd
          cases hd
          unfold dnOf at hd0
          obtain ⟨c', _, hd0⟩ := bind2 hd0
          obtain ⟨f', hf, hd0⟩ := bind2 hd0
          cases hd0
          obtain ⟨g, kk, fd, ps, m1, rn, hA, sf, nf⟩ := ok.bs.runs tk hf
          exact ⟨se_deq K nf (os_eq rn un m1) hA (S.e h1 ok tk).1 (S.e h2 ok tk).1 (hm _), st_deq K nf (os_eq rn un m1) hA (S.e h1 ok tk).1 (S.e h2 ok tk).1 (hm _), fun _ _ _ z => nomatch z⟩
        · cases hd
      cases h
      exact ⟨se_cmp K un (S.e h1 ok tk).1 (S.e h2 ok tk).1 (hm _), st_cmp K un (S.e h1 ok tk).1 (S.e h2 ok tk).1 (hm _), fun _ _ _ z => nomatch z⟩
  · split at h
    · cases h
    · rename_i hs
      obtain ⟨ia, h1, h⟩ := bind2 h
      obtain ⟨ib, h2, h⟩ := bind2 h
      obtain ⟨ic, h3, h⟩ := bind2 h
      cases h
      have hm := fun op => not_marks (op := op) (by simpa using hs)
      exact ⟨se_chn K un (S.e h1 ok tk).1 (S.e h2 ok tk).1 (S.e h3 ok tk).1 (hm _), st_chn K un (S.e h1 ok tk).1 (S.e h2 ok tk).1 (S.e h3 ok tk).1 (hm _), fun _ _ _ z => nomatch z⟩
  · -- Tuple
    obtain ⟨is, h1, h⟩ := bind2 h
    cases h
    exact fin (se_tup (S.l h1 ok tk).frz.sa) (fun _ => rfl) (fun _ _ _ z => nomatch z)
  · obtain ⟨is, h1, h⟩ := bind2 h
    cases h
    exact fin (se_lst (S.l h1 ok tk).frz.sa) (fun _ => rfl) (fun _ _ _ z => nomatch z)
  · cases h
    exact fin (se_dnew false) (fun _ => rfl) (fun _ _ _ z => nomatch z)
  · split at h
    · rename_i q
      obtain ⟨⟨rfl, rfl, rfl, rfl, rfl⟩, rfl, rfl, rfl⟩ := q
      obtain ⟨ig, h1, h⟩ := bind2 h
      obtain ⟨i, h2, h⟩ := bind2 h
      cases h
      obtain ⟨p1, p2, p3, p4⟩ := ok.vis h2
      exact fin (se_drw (S.e h1 ok tk).1 p1 p2 p3 p4) (fun _ => rfl) (fun _ _ _ z => nomatch z)
    · cases h
  · split at h
    · rename_i ks vs pos _ q
      simp only [Bool.and_eq_true, decide_eq_true_eq, Bool.not_eq_true'] at q
      obtain ⟨is, h1, h⟩ := bind2 h
      cases h
      exact fin (se_dct (fun z => by rw [z] at q; simp at q) q.1 (S.d h1 ok tk)) (fun _ => rfl) (fun _ _ _ z => nomatch z)
    · cases h
  · -- slices
    obtain ⟨ia, h1, h⟩ := bind2 h
    obtain ⟨il, h2, h⟩ := bind2 h
    obtain ⟨ih, h3, h⟩ := bind2 h
    cases h
    exact fin (se_slc K (S.e h1 ok tk).1 (S.o h2 ok tk) (S.o h3 ok tk)) (fun _ => rfl) (fun _ _ _ z => nomatch z)
  · obtain ⟨ia, h1, h⟩ := bind2 h
    cases h
    exact fin (se_rvs K (S.e h1 ok tk).1) (fun _ => rfl) (fun _ _ _ z => nomatch z)
  · split at h
    · cases h
    · rename_i hs
      obtain ⟨ia, h1, h⟩ := bind2 h
      obtain ⟨ib, h2, h⟩ := bind2 h
      cases h
      exact fin (se_sub K un (S.e h1 ok tk).1 (S.e h2 ok tk).1 (plain_ix (by simpa using hs))) (fun _ => rfl) (fun _ _ _ z => nomatch z)
  · split at h
    · cases h
    · rename_i hs
      obtain ⟨ia, h1, h⟩ := bind2 h
      cases h
      exact fin (se_att K (S.e h1 ok tk).1 (base_eq (by simpa using hs))) (fun _ => rfl) (fun _ _ _ z => nomatch z)
  · -- f(..)
    rename_i x p es pos
    split at h
    · rename_i q
      simp only [Bool.and_eq_true, Bool.not_eq_true'] at q
      have hg := ok.gl q.1
      obtain ⟨o1, o2⟩ := odd_no q.2
      split at h
      · rename_i hx
        subst hx
        split at h
        · rename_i a c pc
          obtain ⟨ia, h1, h⟩ := bind2 h
          obtain ⟨k, h2, h⟩ := bind2 h
          split at h
          · cases h
          · rename_i hs
            cases h
            unfold clsOf at h2
            split at h2
            · rename_i qc
              simp only [Bool.and_eq_true, Bool.not_eq_true'] at qc
              obtain ⟨oc1, oc2⟩ := odd_no qc.2
              obtain ⟨cv, u, i1, i2, i3⟩ := ok.bs.cls c k h2
              have pc : PE X (.Name c pc) (tC cv) := by
                rcases i3 with i3 | ⟨i3, i4⟩
                · exact pe_glob (ok.gl qc.1) i3 i2 oc1
                · exact pe_bltn (ok.gl qc.1) i3 i4 i2 oc2 oc1
              exact fin (se_isi K hg (ok.bs.blt _ (by decide)) (S.e h1 ok tk).1 pc i1 (star_cons (by simpa using hs)) rfl) (fun _ => rfl) (fun _ _ _ z => nomatch z)
            · cases h2
        · cases h
      · obtain ⟨is, h1, h⟩ := bind2 h
        have sall := S.l h1 ok tk
        have hst := sall.star
        split at h
        · rename_i fi dds hf
          split at h
          · cases h
          · rename_i hne
            cases h
            cases es with
            | nil => simp at hne
            | cons e es =>
              obtain ⟨f, m1, m2, ⟨k, fd, ps, dsv, dvs, F, hr, hb, hd, hdd, hA⟩⟩ := ok.bs.fn _ _ _ _ hf
              exact fin (se_call F hr hg m1 m2 hb hd hdd tk hA sall.frzC.sa o1 (star_cons (hst e (by simp))) (star_all fun z hz => hst z (by simp [hz])).2) (fun _ => rfl) (fun _ _ _ z => nomatch z)
        · split at h
          · rename_i c fi dds hf
            split at h
            · cases h
            · rename_i hne
              cases h
              cases es with
              | nil => simp at hne
              | cons e es =>
                obtain ⟨f, m0, m1, m2, ⟨k, fd, ps, dsv, dvs, F, hr, hb, hd, hdd, hA⟩⟩ := ok.bs.nw _ _ _ _ _ hf
                exact fin (se_make m0 m1 F hr hg m2 hb hd hdd tk hA sall.frzC.sa o1 (star_cons (hst e (by simp))) (star_all fun z hz => hst z (by simp [hz])).2) (fun _ => rfl) (fun _ _ _ z => nomatch z)
          · split at h
            · rename_i c f hd
              split at h
              · rename_i ia
                cases h
                unfold lDn at hd
                split at hd
                · rename_i a
                  split at hd
                  · rename_i hx2
                    subst hx2
                    unfold dnOf at hd
                    obtain ⟨c', _, hd⟩ := bind2 hd
                    obtain ⟨f', hf, hd⟩ := bind2 hd
                    cases hd
                    obtain ⟨g, kk, fd, ps, m1, rn, hA, sf, nf⟩ := ok.bs.runs tk hf
                    cases sall with
                    | cons s1 s2 s3 => exact fin (se_dlen rn m1 hA hg (ok.bs.blt _ (by decide)) s1 s2) (fun _ => rfl) (fun _ _ _ z => nomatch z)
                  · cases hd
                · cases hd
              · cases h
            · split at h
              · rename_i b hb
                cases h
                cases sall with
                | nil => exact absurd hb (by unfold bltOf; simp)
                | cons s1 s2 s3 =>
                  exact fin (se_blt (t := fun ta => tCB (rCall T (bltW (ftB C.ftp b))) ta) (fun ha => blt_ft C.ftp ok hb hg ha (star_cons s2) (star_all fun z hz => hst z (by simp [hz])).2 fun hb' => blt_call ok hb' hg ha (star_cons s2) (star_all fun z hz => hst z (by simp [hz])).2) (SAll.cons s1 s2 s3).sa) (fun _ => rfl) (fun _ _ _ z => nomatch z)
              · cases h
    · cases h
  · -- f(.., k = ..)
    rename_i x p es kws pos _
    split at h
    · rename_i q
      simp only [Bool.and_eq_true, Bool.not_eq_true'] at q
      obtain ⟨⟨⟨q1, q2⟩, q3⟩, q4⟩ := q
      have hg := ok.gl q1
      obtain ⟨o1, o2⟩ := odd_no q2
      split at h
      · rename_i fi hf
        obtain ⟨is, h1, h⟩ := bind2 h
        obtain ⟨js, h2, h⟩ := bind2 h
        cases h
        have sall := S.l h1 ok tk
        have skw := S.l h2 ok tk
        have hst := sall.star
        cases es with
        | nil => simp at q3
        | cons e es =>
          obtain ⟨f, m1, m2, ⟨k, fd, ps, F, hr, hb, hps, hA⟩⟩ := ok.bs.kf _ _ _ _ hf
          obtain ⟨k1, k2, k3⟩ := kw_some (env := X.env) (pos := pos) q4
          exact fin (se_callK F hr hg m1 m2 hb tk hA sall.frzC.pal skw.frzC.sk hps k1 k2 o1 (star_cons (hst e (by simp))) (by rw [k3, (star_all hst).2]; rfl)) (fun _ => rfl) (fun _ _ _ z => nomatch z)
      · cases h
    · cases h
  · -- o.m(..)
    rename_i o m ap es pos
    split at h
    · cases h
    · rename_i q
      simp only [Bool.or_eq_true, Bool.not_eq_true', not_or, Bool.not_eq_true, Bool.not_eq_false, decide_eq_false_iff_not, Nat.not_lt, Nat.not_le] at q
      obtain ⟨⟨q1, q2⟩, q3⟩ := q
      obtain ⟨is, h1, h⟩ := bind2 h
      have sall := S.l h1 ok tk
      have hst := sall.star
      have hsa := star_all (env := X.env) (pos := pos) hst
      have mf : ∀ {e : Expr} {es' : List Expr} {nm : Str}, es = e :: es' → MForm X o nm ap es pos := fun {e es' nm} he => by
        subst he
        refine ⟨base_eq q1, ?_, q2, hsa.2, ?_⟩
        · rw [hsa.1]
          have : (e :: es').length < 28 := by omega
          simp only [keywordEach, backToKw, List.map_nil, List.all_nil, Bool.true_and, Bool.and_true, decide_eq_true_eq, List.isEmpty_nil, if_true, List.length_nil]
          omega
        · exact star_cons (hst e (by simp))
      split at h
      · rename_i c fi dds hf
        obtain ⟨io, h2, h⟩ := bind2 h
        cases h
        obtain ⟨f, m1, m2, ⟨k, fd, ps, dsv, dvs, F, hr, hb, hd, hdd, hA⟩⟩ := ok.bs.mt _ _ _ _ _ hf
        have ht := mc_form (m := m) (env := X.env) q1 q2 (by omega) hsa.1
        have sf := sall.frzC (C := C)
        cases sall with
        | nil => exact fin (se_mcl0 K (S.e h2 ok tk).1 m1 m2 F hr hb hd hdd tk hA ht) (fun _ => rfl) (fun _ _ _ z => nomatch z)
        | cons s1 s2 s3 => exact fin (se_mcl K (S.e h2 ok tk).1 m1 m2 F hr hb hd hdd tk hA sf.sa (star_cons s2) (star_all fun z hz => hst z (by simp [hz])).2 ht) (fun _ => rfl) (fun _ _ _ z => nomatch z)
      · split at h
        · rename_i u hu
          split at h
          · rename_i x px
            obtain ⟨i, h2, h⟩ := bind2 h
            cases h
            obtain ⟨p1, p2, p3, p4⟩ := ok.vis h2
            have hm : m = muName u := by
              unfold muOf at hu
              by_cases c1 : m = "append" ∧ es.length = 1
              · rw [if_pos c1] at hu; cases hu; exact c1.1
              rw [if_neg c1] at hu
              by_cases c2 : m = "insert" ∧ es.length = 2
              · rw [if_pos c2] at hu; cases hu; exact c2.1
              rw [if_neg c2] at hu
              by_cases c3 : m = "clear" ∧ es.length = 0
              · rw [if_pos c3] at hu; cases hu; exact c3.1
              rw [if_neg c3] at hu
              by_cases c4 : m = "reverse" ∧ es.length = 0
              · rw [if_pos c4] at hu; cases hu; exact c4.1
              rw [if_neg c4] at hu
              by_cases c5 : m = "pop" ∧ es.length = 1
              · rw [if_pos c5] at hu; cases hu; exact c5.1
              rw [if_neg c5] at hu
              cases hu
            subst hm
            cases sall with
            | nil => exact fin (se_mut0 K p1 p2 p3 p4 (base_eq q1) q2) (fun _ => rfl) (fun _ _ _ z => nomatch z)
            | cons s1 s2 s3 => exact fin (se_mut K p1 p2 p3 p4 (mf rfl) (SAll.cons s1 s2 s3).frz.sa) (fun _ => rfl) (fun _ _ _ z => nomatch z)
          · cases h
        · split at h
          · rename_i u hu
            obtain ⟨io, h2, h⟩ := bind2 h
            cases h
            have hm : m = mName u ∧ es ≠ [] := by
              unfold mthOf at hu
              by_cases c1 : m = "get" ∧ es.length = 1
              · rw [if_pos c1] at hu; cases hu; exact ⟨c1.1, fun z => by rw [z] at c1; cases c1.2⟩
              rw [if_neg c1] at hu
              by_cases c2 : m = "get" ∧ es.length = 2
              · rw [if_pos c2] at hu; cases hu; exact ⟨c2.1, fun z => by rw [z] at c2; cases c2.2⟩
              rw [if_neg c2] at hu
              by_cases c3 : m = "join" ∧ es.length = 1
              · rw [if_pos c3] at hu; cases hu; exact ⟨c3.1, fun z => by rw [z] at c3; cases c3.2⟩
              rw [if_neg c3] at hu
              by_cases c4 : m = "index" ∧ es.length = 1
              · rw [if_pos c4] at hu; cases hu; exact ⟨c4.1, fun z => by rw [z] at c4; cases c4.2⟩
              rw [if_neg c4] at hu
              cases hu
            obtain ⟨hm, he⟩ := hm
            subst hm
            cases sall with
            | nil => exact absurd rfl he
            | cons s1 s2 s3 => exact fin (se_mth K un (mf rfl) (S.e h2 ok tk).1 (SAll.cons s1 s2 s3).sa) (fun _ => rfl) (fun _ _ _ z => nomatch z)
          · cases h
  · -- comprehensions
    rename_i elt tg iter ifs scope pos
    split at h
    · rename_i q
      simp only [Bool.and_eq_true, Bool.not_eq_true'] at q
      obtain ⟨ii, h1, h⟩ := bind2 h
      obtain ⟨ti, h2, h⟩ := bind2 h
      obtain ⟨io, h3, h⟩ := bind2 h
      obtain ⟨ie, h4, h⟩ := bind2 h
      cases h
      have bo := blk_ok ok q.1
      refine fin (se_lcp ok.bs.calm (by rw [ok.N]; exact ok.nd) ⟨S.i h1 ok tk, bo, fun s H A cl fp => S.t h2 (ok.blk bo.kind), fun s H A cl fp => S.f h3 (ok.blk bo.kind), fun s H A cl fp => (S.e h4 (ok.blk bo.kind) takes0').1, fold_pure q.2 _⟩) (fun _ => rfl) (fun _ _ _ z => nomatch z)
    · cases h
  · rename_i elt tg iter ifs tg1 iter1 ifs1 scope pos
    split at h
    · rename_i q
      simp only [Bool.and_eq_true, Bool.not_eq_true'] at q
      obtain ⟨ii, h1, h⟩ := bind2 h
      obtain ⟨ti, h2, h⟩ := bind2 h
      obtain ⟨io, h3, h⟩ := bind2 h
      obtain ⟨ii1, h6, h⟩ := bind2 h
      obtain ⟨ti1, h7, h⟩ := bind2 h
      obtain ⟨io1, h8, h⟩ := bind2 h
      obtain ⟨ie, h4, h⟩ := bind2 h
      split at h
      · rename_i hv
        cases h
        have bo := blk_ok ok q.1.1
        refine fin (se_lc2 ok.bs.calm (by rw [ok.N]; exact ok.nd) ⟨S.i h1 ok tk, bo, fun s H A cl fp => S.t h2 (ok.blk bo.kind), fun s H A cl fp => S.f h3 (ok.blk bo.kind), fun s H A cl fp => (S.e h4 (ok.blk bo.kind) takes0').1, fold_pure q.1.2 _⟩
          ⟨fun i hi => by have := List.all_eq_true.mp hv i hi; simpa using this, fun s H A cl fp => S.i h6 (ok.blk bo.kind) takes0', fun s H A cl fp => S.t h7 (ok.blk bo.kind), fun s H A cl fp => S.f h8 (ok.blk bo.kind), fold_pure q.2⟩) (fun _ => rfl) (fun _ _ _ z => nomatch z)
      · cases h
    · cases h
  · rename_i kx vx tg iter ifs scope pos
    split at h
    · rename_i q
      simp only [Bool.and_eq_true, Bool.not_eq_true'] at q
      obtain ⟨ii, h1, h⟩ := bind2 h
      obtain ⟨ti, h2, h⟩ := bind2 h
      obtain ⟨io, h3, h⟩ := bind2 h
      obtain ⟨ik, h4, h⟩ := bind2 h
      obtain ⟨iv, h5, h⟩ := bind2 h
      cases h
      have bo := blk_ok ok q.1
      refine fin (se_dcp _ un ok.bs.calm (by rw [ok.N]; exact ok.nd) ⟨S.i h1 ok tk, bo, fun s H A cl fp => S.t h2 (ok.blk bo.kind), fun s H A cl fp => S.f h3 (ok.blk bo.kind), fun s H A cl fp => (S.e h4 (ok.blk bo.kind) takes0').1, fun s H A cl fp => (S.e h5 (ok.blk bo.kind) takes0').1, fold_pure q.2 _⟩) (fun _ => rfl) (fun _ _ _ z => nomatch z)
    · cases h
  · rename_i kx vx tg iter ifs tg1 iter1 ifs1 scope pos
    split at h
    · rename_i q
      simp only [Bool.and_eq_true, Bool.not_eq_true'] at q
      obtain ⟨ii, h1, h⟩ := bind2 h
      obtain ⟨ti, h2, h⟩ := bind2 h
      obtain ⟨io, h3, h⟩ := bind2 h
      obtain ⟨ii1, h6, h⟩ := bind2 h
      obtain ⟨ti1, h7, h⟩ := bind2 h
      obtain ⟨io1, h8, h⟩ := bind2 h
      obtain ⟨ik, h4, h⟩ := bind2 h
      obtain ⟨iv, h5, h⟩ := bind2 h
      split at h
      · rename_i hv
        cases h
        have bo := blk_ok ok q.1.1
        refine fin (se_dc2 _ un ok.bs.calm (by rw [ok.N]; exact ok.nd) ⟨S.i h1 ok tk, bo, fun s H A cl fp => S.t h2 (ok.blk bo.kind), fun s H A cl fp => S.f h3 (ok.blk bo.kind), fun s H A cl fp => (S.e h4 (ok.blk bo.kind) takes0').1, fun s H A cl fp => (S.e h5 (ok.blk bo.kind) takes0').1, fold_pure q.1.2 _⟩
          ⟨fun i hi => by have := List.all_eq_true.mp hv i hi; simpa using this, fun s H A cl fp => S.i h6 (ok.blk bo.kind) takes0', fun s H A cl fp => S.t h7 (ok.blk bo.kind), fun s H A cl fp => S.f h8 (ok.blk bo.kind), fold_pure q.2⟩) (fun _ => rfl) (fun _ _ _ z => nomatch z)
      · cases h
    · cases h
  · cases h
theorem snd_all : ∀ n, Snd T Γ n
  | 0 => snd_0
  | n + 1 =>
    have S := snd_all n
    ⟨fun h _ _ ok tk => snd_e S h ok tk, fun h _ _ ok tk => snd_l S h ok tk, fun h _ _ _ ok tk => snd_d S h ok tk, fun h _ _ ok tk => snd_o S h ok tk, fun h _ ok => snd_f S h ok, fun h _ _ ok tk => snd_i S h ok tk, fun h _ ok => snd_t S h ok, fun h _ ok => snd_ts S h ok⟩
end
end Mi
namespace Mi
open PySem PySem.Spec PyProof.Rows L2
/-! ### which way an assignment goes -/
theorem sw_no {v : Expr} {t : Option Expr} {l : Nat} {env : PySem.Env} (h : isComp v = false) : swapsWith v t l env = pure false := by
  cases v <;> first | rfl | cases h
theorem sw_tup {v : Expr} {es : List Expr} {k l : Nat} {p : Pos} {env : PySem.Env} : swapsWith v (some (.Tuple es k p)) l env = pure false := by
  cases v <;> rfl
theorem sw_sub {v o i : Expr} {l : Nat} {p : Pos} {env : PySem.Env} : swapsWith v (some (.Subscript o i p)) l env = pure false := by
  cases v <;> rfl
theorem sw_att {v o : Expr} {f : Str} {l : Nat} {p : Pos} {env : PySem.Env} : swapsWith v (some (.Attribute o f p)) l env = pure false := by
  cases v <;> rfl
theorem swS_sub {v o i : Expr} {p : Pos} {env : PySem.Env} : swappedStores [.Subscript o i p] v env = pure none := by
  cases v <;> rfl
theorem swS_tup {v : Expr} {es : List Expr} {k : Nat} {p : Pos} {env : PySem.Env} (h : isTup v = false) : swappedStores [.Tuple es k p] v env = pure none := by
  cases v <;> first | rfl | cases h
theorem star_any (vs : List Expr) : (vs.any fun x => match x with | .Starred .. => true | _ => false) = vs.any isStar := by
  congr 1
theorem swS_eq {ts vs : List Expr} {kt k2 : Nat} {pt pt2 : Pos} {env : PySem.Env} (kd : env.scope.kind = .function) :
    swappedStores [.Tuple ts kt pt] (.Tuple vs k2 pt2) env = if swB env.scope ts vs = true then (if vs.all (foldedForSure 8) = true then pure none else if vs.all (constantsAlone 8) = true then (do
      unsupported "assign.tuple-of-constant-expressions:order-of-the-stores"
      pure (some (locsOn env.scope ((ts.head?.map fun x : Expr => x.pos.line).getD 0) ts))) else pure (some (locsOn env.scope ((ts.head?.map fun x : Expr => x.pos.line).getD 0) ts))) else pure none := by
  have hb : env.blockKind = .function := by unfold Env.blockKind; rw [kd]; rfl
  have en : ∀ l : Nat, (ts.filterMap fun x => match x with | .Name id pos => if (env.kindOf id == some NameKind.local && pos.line == l) = true then some id else none | _ => none) = locsOn env.scope l ts := fun l => rfl
  show (if (!(ts.length == 2 || ts.length == 3) || vs.length != ts.length || env.blockKind != .function) = true then pure none
    else if (vs.any fun x => match x with | .Starred .. => true | _ => false) = true then pure none
    else if ((locsOn env.scope ((ts.head?.map fun x : Expr => x.pos.line).getD 0) ts).length != ts.length || (locsOn env.scope ((ts.head?.map fun x : Expr => x.pos.line).getD 0) ts).eraseDups.length != (locsOn env.scope ((ts.head?.map fun x : Expr => x.pos.line).getD 0) ts).length) = true then pure none
    else if vs.all (foldedForSure 8) = true then pure none
    else if vs.all (constantsAlone 8) = true then (do
      unsupported "assign.tuple-of-constant-expressions:order-of-the-stores"
      pure (some (locsOn env.scope ((ts.head?.map fun x : Expr => x.pos.line).getD 0) ts)))
    else pure (some (locsOn env.scope ((ts.head?.map fun x : Expr => x.pos.line).getD 0) ts))) = _
  rw [star_any, hb]
  unfold swB
  generalize locsOn env.scope ((ts.head?.map fun x : Expr => x.pos.line).getD 0) ts = L
  cases c1 : (ts.length == 2 || ts.length == 3) <;> cases c2 : vs.length == ts.length <;> cases c3 : vs.any isStar <;> cases c4 : L.length == ts.length <;> cases c5 : L.eraseDups.length == L.length <;> simp_all [bne]
theorem sw_name {v : Expr} {x : Str} {py : Pos} {l : Nat} {env : PySem.Env} (kd : env.scope.kind = .function) : swapsWith v (some (.Name x py)) l env = pure false ∨ (env.scope.names.lookup x = some .local ∧ swapsWith v (some (.Name x py)) l env = pure true) := by
  by_cases hc : isComp v = false
  · exact .inl (sw_no hc)
  · have hb : env.blockKind = .function := by unfold Env.blockKind; rw [kd]; rfl
    have go : ∀ (sc : Scope) (p2 : Pos), (∀ {b : Bool}, (env.blockKind == .function && env.kindOf x == some NameKind.local && py.line == p2.line && !(sc.names.any fun (n, k) => n == x && (k == .local || k == .cell))) = b → swapsWith v (some (.Name x py)) l env = pure b) → (swapsWith v (some (.Name x py)) l env = pure false ∨ (env.scope.names.lookup x = some .local ∧ swapsWith v (some (.Name x py)) l env = pure true)) := fun sc p2 h => by
      cases q : (env.blockKind == .function && env.kindOf x == some NameKind.local && py.line == p2.line && !(sc.names.any fun (n, k) => n == x && (k == .local || k == .cell))) with
      | false => exact .inl (h q)
      | true =>
        refine .inr ⟨?_, h q⟩
        simp only [Bool.and_eq_true] at q
        exact eq_of_beq q.1.1.2
    cases v with
    | ListComp a b sc p2 => exact go sc p2 fun {b} e => by subst e; rfl
    | SetComp a b sc p2 => exact go sc p2 fun {b} e => by subst e; rfl
    | DictComp a a2 b sc p2 => exact go sc p2 fun {b} e => by subst e; rfl
    | _ => exact absurd rfl hc
section
variable {T : Tx} {Γ : Nat → FS} {C : Cc} {X : Cx} {W : WX} {A : Nat → Prop}
theorem se_frzA {i : Nat} {e : Expr} {ie : IE} (h : SE X T W Γ e ie) : SE X T W Γ e (frzA C i ie) := by
  unfold frzA
  split
  · exact h
  · exact se_frz h
theorem ss_nev {st : Stmt} : SS X T W A Γ st .nev := ps_weak ps_never fun Q σ H ⟨ρ, G, K, R, w, d⟩ => w
/-- name = value -/
theorem snd_asg {n : Nat} {v : Expr} {x : Str} {py pos : Pos} {i : Nat} {ie : IE} (ok : OkC T Γ C X) (tk : Takes X W) (hi : slotL C x = some i) (hv : cE n C v = some ie) (hA : A i) : SS X T W A Γ (.Assign [.Name x py] v pos) (.asg (.name i) (frzA C i ie)) := by
  have S := snd_all (T := T) (Γ := Γ) n
  have hN : X.N.Nodup := by rw [ok.N]; exact ok.nd
  obtain ⟨p1, p2, p3⟩ := ok.loc hi
  rcases sw_name (v := v) (x := x) (py := py) (l := pos.line) ok.kd with sw | ⟨lc, sw⟩
  · exact ss_asg hN p1 p2 p3 hA (se_frzA (S.e hv ok tk).1) sw
  · by_cases hc : isComp v = false
    · rw [sw_no hc] at sw
      exact ss_asg hN p1 p2 p3 hA (se_frzA (S.e hv ok tk).1) (sw_no hc)
    · have pick : ∀ {ir : IE}, SS X T W A Γ (.Assign [.Name x py] v pos) (.asg (.name i) ir) ∧ SS X T W A Γ (.Assign [.Name x py] v pos) (.asg (.name i) (.frz ir)) → SS X T W A Γ (.Assign [.Name x py] v pos) (.asg (.name i) (frzA C i ir)) := fun {ir} h => by
        unfold frzA
        split
        · exact h.1
        · exact h.2
      cases n with
      | zero => unfold cE at hv; cases hv
      | succ n =>
        have S := snd_all (T := T) (Γ := Γ) n
        unfold cE at hv
        split at hv
        all_goals try exact absurd rfl hc
        · rename_i elt tg iter ifs scope p2
          split at hv
          · rename_i q
            simp only [Bool.and_eq_true, Bool.not_eq_true'] at q
            obtain ⟨ii, h1, hv⟩ := bind2 hv
            obtain ⟨ti, h2, hv⟩ := bind2 hv
            obtain ⟨io, h3, hv⟩ := bind2 hv
            obtain ⟨ie, h4, hv⟩ := bind2 hv
            cases hv
            have bo := blk_ok ok q.1
            have L : Lcp X T W Γ elt tg iter ifs scope (ownOf C.N scope) ti ii io ie := ⟨S.i h1 ok tk, bo, fun s H A cl fp => S.t h2 (ok.blk bo.kind), fun s H A cl fp => S.f h3 (ok.blk bo.kind), fun s H A cl fp => (S.e h4 (ok.blk bo.kind) takes0').1, fold_pure q.2 _⟩
            exact pick ⟨ss_asgLc hA ok.bs.calm hN p1 lc sw L, ss_asgLcF hA ok.bs.calm hN p1 lc sw L⟩
          · cases hv
        · rename_i elt tg iter ifs tg1 iter1 ifs1 scope p2
          split at hv
          · rename_i q
            simp only [Bool.and_eq_true, Bool.not_eq_true'] at q
            obtain ⟨ii, h1, hv⟩ := bind2 hv
            obtain ⟨ti, h2, hv⟩ := bind2 hv
            obtain ⟨io, h3, hv⟩ := bind2 hv
            obtain ⟨ii1, h6, hv⟩ := bind2 hv
            obtain ⟨ti1, h7, hv⟩ := bind2 hv
            obtain ⟨io1, h8, hv⟩ := bind2 hv
            obtain ⟨ie, h4, hv⟩ := bind2 hv
            split at hv
            · rename_i hvs
              cases hv
              have bo := blk_ok ok q.1.1
              exact pick (ss_asgLc2 hA ok.bs.calm hN p1 lc sw ⟨S.i h1 ok tk, bo, fun s H A cl fp => S.t h2 (ok.blk bo.kind), fun s H A cl fp => S.f h3 (ok.blk bo.kind), fun s H A cl fp => (S.e h4 (ok.blk bo.kind) takes0').1, fold_pure q.1.2 _⟩
                ⟨fun i hi => by have := List.all_eq_true.mp hvs i hi; simpa using this, fun s H A cl fp => S.i h6 (ok.blk bo.kind) takes0', fun s H A cl fp => S.t h7 (ok.blk bo.kind), fun s H A cl fp => S.f h8 (ok.blk bo.kind), fold_pure q.2⟩)
            · cases hv
          · cases hv
        · rename_i kx vx tg iter ifs scope p2
          split at hv
          · rename_i q
            simp only [Bool.and_eq_true, Bool.not_eq_true'] at q
            obtain ⟨ii, h1, hv⟩ := bind2 hv
            obtain ⟨ti, h2, hv⟩ := bind2 hv
            obtain ⟨io, h3, hv⟩ := bind2 hv
            obtain ⟨ik, h4, hv⟩ := bind2 hv
            obtain ⟨iv, h5, hv⟩ := bind2 hv
            cases hv
            have bo := blk_ok ok q.1
            exact pick (ss_asgDc _ hA ok.bs.un ok.bs.calm hN p1 lc sw ⟨S.i h1 ok tk, bo, fun s H A cl fp => S.t h2 (ok.blk bo.kind), fun s H A cl fp => S.f h3 (ok.blk bo.kind), fun s H A cl fp => (S.e h4 (ok.blk bo.kind) takes0').1, fun s H A cl fp => (S.e h5 (ok.blk bo.kind) takes0').1, fold_pure q.2 _⟩)
          · cases hv
        · rename_i kx vx tg iter ifs tg1 iter1 ifs1 scope p2
          split at hv
          · rename_i q
            simp only [Bool.and_eq_true, Bool.not_eq_true'] at q
            obtain ⟨ii, h1, hv⟩ := bind2 hv
            obtain ⟨ti, h2, hv⟩ := bind2 hv
            obtain ⟨io, h3, hv⟩ := bind2 hv
            obtain ⟨ii1, h6, hv⟩ := bind2 hv
            obtain ⟨ti1, h7, hv⟩ := bind2 hv
            obtain ⟨io1, h8, hv⟩ := bind2 hv
            obtain ⟨ik, h4, hv⟩ := bind2 hv
            obtain ⟨iv, h5, hv⟩ := bind2 hv
            split at hv
            · rename_i hvs
              cases hv
              have bo := blk_ok ok q.1.1
              exact pick (ss_asgDc2 _ hA ok.bs.un ok.bs.calm hN p1 lc sw ⟨S.i h1 ok tk, bo, fun s H A cl fp => S.t h2 (ok.blk bo.kind), fun s H A cl fp => S.f h3 (ok.blk bo.kind), fun s H A cl fp => (S.e h4 (ok.blk bo.kind) takes0').1, fun s H A cl fp => (S.e h5 (ok.blk bo.kind) takes0').1, fold_pure q.1.2 _⟩
                ⟨fun i hi => by have := List.all_eq_true.mp hvs i hi; simpa using this, fun s H A cl fp => S.i h6 (ok.blk bo.kind) takes0', fun s H A cl fp => S.t h7 (ok.blk bo.kind), fun s H A cl fp => S.f h8 (ok.blk bo.kind), fold_pure q.2⟩)
            · cases hv
          · cases hv
        · cases hv
end
end Mi
namespace Mi
open PySem PySem.Spec PyProof.Rows L2
section
variable {T : Tx} {Γ : Nat → FS} {C : Cc} {X : Cx} {W : WX} {A : Nat → Prop}
theorem as_sub {o k : Expr} {p : Pos} {env : PySem.Env} (h : isSlice k = false) : ∀ v, assign (.Subscript o k p) env v = (do
      let ov ← holding [v] (eval o env)
      let iv ← holding [v, ov] (eval k env)
      standAt p
      holding [v, ov, iv] (setItem ov iv v)
      release [v, ov, iv] []) := by
  cases k <;> first | (intro _; rfl) | cases h
theorem locs_cons {sc : Scope} {l : Nat} {x : Str} {p : Pos} {ts : List Expr} : locsOn sc l (.Name x p :: ts) = (if (sc.names.lookup x == some NameKind.local && p.line == l) = true then [x] else []) ++ locsOn sc l ts := by
  unfold locsOn
  rw [List.filterMap_cons]
  by_cases c : (sc.names.lookup x == some NameKind.local && p.line == l) = true
  · rw [if_pos c]
    simp only [c, if_true]
    rfl
  · rw [if_neg c]
    simp only [c]
    rfl
theorem locs2 {sc : Scope} {x y : Str} {px py : Pos} {a b : Expr} (h : swB sc [.Name x px, .Name y py] [a, b] = true) : locsOn sc (((([.Name x px, .Name y py] : List Expr)).head?.map fun x : Expr => x.pos.line).getD 0) [.Name x px, .Name y py] = [x, y] ∧ sc.names.lookup x = some .local ∧ sc.names.lookup y = some .local := by
  have e : locsOn sc px.line [.Name x px, .Name y py] = (if (sc.names.lookup x == some NameKind.local && px.line == px.line) = true then [x] else []) ++ (if (sc.names.lookup y == some NameKind.local && py.line == px.line) = true then [y] else []) := by
    rw [locs_cons, locs_cons]
    show _ ++ (_ ++ []) = _
    rw [List.append_nil]
  show locsOn sc px.line _ = _ ∧ _
  unfold swB at h
  simp only [Bool.and_eq_true] at h
  have h2 : (locsOn sc px.line [.Name x px, .Name y py]).length == 2 := h.1.2
  rw [e] at h2 ⊢
  by_cases c1 : (sc.names.lookup x == some NameKind.local && px.line == px.line) = true <;> by_cases c2 : (sc.names.lookup y == some NameKind.local && py.line == px.line) = true
  · rw [if_pos c1, if_pos c2]
    simp only [Bool.and_eq_true] at c1 c2
    exact ⟨rfl, eq_of_beq c1.1, eq_of_beq c2.1⟩
  · rw [if_pos c1, if_neg c2] at h2; cases h2
  · rw [if_neg c1, if_pos c2] at h2; cases h2
  · rw [if_neg c1, if_neg c2] at h2; cases h2
theorem locs3 {sc : Scope} {x y z : Str} {px py pz : Pos} {a b c : Expr} (h : swB sc [.Name x px, .Name y py, .Name z pz] [a, b, c] = true) : locsOn sc (((([.Name x px, .Name y py, .Name z pz] : List Expr)).head?.map fun x : Expr => x.pos.line).getD 0) [.Name x px, .Name y py, .Name z pz] = [x, y, z] ∧ sc.names.lookup x = some .local ∧ sc.names.lookup y = some .local ∧ sc.names.lookup z = some .local := by
  have e : locsOn sc px.line [.Name x px, .Name y py, .Name z pz] = (if (sc.names.lookup x == some NameKind.local && px.line == px.line) = true then [x] else []) ++ ((if (sc.names.lookup y == some NameKind.local && py.line == px.line) = true then [y] else []) ++ (if (sc.names.lookup z == some NameKind.local && pz.line == px.line) = true then [z] else [])) := by
    rw [locs_cons, locs_cons, locs_cons]
    show _ ++ (_ ++ (_ ++ [])) = _
    rw [List.append_nil]
  show locsOn sc px.line _ = _ ∧ _
  unfold swB at h
  simp only [Bool.and_eq_true] at h
  have h2 : (locsOn sc px.line [.Name x px, .Name y py, .Name z pz]).length == 3 := h.1.2
  rw [e] at h2 ⊢
  by_cases c1 : (sc.names.lookup x == some NameKind.local && px.line == px.line) = true <;> by_cases c2 : (sc.names.lookup y == some NameKind.local && py.line == px.line) = true <;> by_cases c3 : (sc.names.lookup z == some NameKind.local && pz.line == px.line) = true
  · rw [if_pos c1, if_pos c2, if_pos c3]
    simp only [Bool.and_eq_true] at c1 c2 c3
    exact ⟨rfl, eq_of_beq c1.1, eq_of_beq c2.1, eq_of_beq c3.1⟩
  all_goals (first | rw [if_pos c1] at h2 | rw [if_neg c1] at h2) <;> (first | rw [if_pos c2] at h2 | rw [if_neg c2] at h2) <;> (first | rw [if_pos c3] at h2 | rw [if_neg c3] at h2) <;> cases h2
theorem swB_star {sc : Scope} {ts vs : List Expr} (h : swB sc ts vs = true) : ∀ e ∈ vs, isStar e = false := by
  unfold swB at h
  simp only [Bool.and_eq_true, Bool.not_eq_true'] at h
  intro e he
  have := h.1.1.2
  rw [List.any_eq_false] at this
  simpa using this e he
/-- the statements -/
structure SndS (T : Tx) (Γ : Nat → FS) (n : Nat) : Prop where
  s : ∀ {C : Cc} {st : Stmt} {X : Cx} {W : WX} {A : Nat → Prop}, OkC T Γ C X → Takes X W → PassesOwn (model X.prog X.w) X.A X.env X.xe → (∀ i ∈ asgS (cS n C st), A i) → SS X T W A Γ st (cS n C st)
  ss : ∀ {C : Cc} {sts : List Stmt} {X : Cx} {W : WX} {A : Nat → Prop}, OkC T Γ C X → Takes X W → PassesOwn (model X.prog X.w) X.A X.env X.xe → (∀ i ∈ asgSs (cSs n C sts), A i) → SSs X T W A Γ sts (cSs n C sts)
theorem sss_nev {sts : List Stmt} : SSs X T W A Γ sts [.nev] := by
  refine ⟨fun pins s σ H Q I h => ?_⟩
  obtain ⟨ρ, G, K, R, w, d⟩ := h
  exact w.elim
theorem tup_asg {n : Nat} {es : List Expr} {kt : Nat} {pt pos : Pos} {v : Expr} (ok : OkC T Γ C X) (tk : Takes X W) (hw : swappedStores [.Tuple es kt pt] v X.env = pure none) (hA : ∀ i ∈ asgS (match cT n C (.Tuple es kt pt) with | some (.tup ts) => (match cE n C v with | some iv => IS.asg (.tup ts) iv | none => .nev) | _ => .nev), A i) :
    SS X T W A Γ (.Assign [.Tuple es kt pt] v pos) (match cT n C (.Tuple es kt pt) with | some (.tup ts) => (match cE n C v with | some iv => IS.asg (.tup ts) iv | none => .nev) | _ => .nev) := by
  have S := snd_all (T := T) (Γ := Γ) n
  split at hA
  · rename_i ts h1
    split at hA
    · rename_i iv h2
      exact ss_asgT (tg := .Tuple es kt pt) (fun i hi => hA i hi) (S.e h2 ok tk).1 (S.t h1 ok) (show swapsWith v (some (.Tuple es kt pt)) pos.line X.env = pure false from sw_tup) hw rfl
    · exact ss_nev
  · exact ss_nev
theorem sndS_s {n : Nat} (SS' : SndS T Γ n) {C : Cc} {st : Stmt} {X : Cx} {W : WX} {A : Nat → Prop} (ok : OkC T Γ C X) (tk : Takes X W) (hp : PassesOwn (model X.prog X.w) X.A X.env X.xe) (hA : ∀ i ∈ asgS (cS (n + 1) C st), A i) : SS X T W A Γ st (cS (n + 1) C st) := by
  have S := snd_all (T := T) (Γ := Γ) n
  have hN : X.N.Nodup := by rw [ok.N]; exact ok.nd
  have kd := ok.kd
  unfold cS at hA ⊢
  split at hA
  · exact ss_pas
  · exact ss_brk
  · exact ss_cnt
  · exact ps_weak ps_doc fun Q σ H ⟨ρ, G, K, R, w, d⟩ => d.nx ρ σ G H .refl (Step.refl fun _ h => h) R w
  · rename_i e pos _
    split at hA
    · rename_i hc
      try dsimp only
      try rw [if_pos hc]
      exact ss_nev
    · rename_i hc
      try dsimp only
      try rw [if_neg hc]
      split
      · rename_i i h1
        exact ss_exp (S.e h1 ok tk).1 (sw_no (by simpa using hc))
      · exact ss_nev
  · exact ss_retN
  · try dsimp only
    split
    · rename_i i h1; exact ss_ret (S.e h1 ok tk).1
    · exact ss_nev
  · try dsimp only at hA ⊢
    split at hA
    · rename_i i h1
      try rw [h1]
      refine ss_ite (S.e h1 ok tk).2.1 (SS'.ss ok tk hp fun i hi => hA i ?_) (SS'.ss ok tk hp fun i hi => hA i ?_)
      · show i ∈ asgSs _ ++ asgSs _; exact List.mem_append_left _ hi
      · show i ∈ asgSs _ ++ asgSs _; exact List.mem_append_right _ hi
    · rename_i h1
      try rw [h1]
      exact ss_nev
  · -- for
    rename_i tg it b pos
    try dsimp only at hA ⊢
    split at hA
    · rename_i hc; (try rw [if_pos hc]); exact ss_nev
    · rename_i hc
      try rw [if_neg hc]
      split at hA
      · rename_i ii h1
        try rw [h1]
        try dsimp only
        split at hA
        · rename_i ti h2
          try rw [h2]
          exact ss_for hA hp ok.bs.calm (S.i h1 ok tk) (S.t h2 ok) (SS'.ss ok tk hp fun i hi => List.mem_append_right _ hi) (fold_pure (by simpa using hc) _)
        · rename_i h2; (try rw [h2]); exact ss_nev
      · rename_i h1; (try rw [h1]); exact ss_nev
  · -- while
    try dsimp only at hA ⊢
    split at hA
    · rename_i i h1
      try rw [h1]
      exact ss_whl hp (S.e h1 ok tk).2.1 (SS'.ss ok tk hp hA)
    · rename_i h1; (try rw [h1]); exact ss_nev
  · -- x = {}
    rename_i x py pd pos
    try dsimp only at hA ⊢
    split at hA
    · rename_i i h1
      try rw [h1]
      obtain ⟨p1, p2, p3⟩ := ok.loc h1
      exact ss_asg hN p1 p2 p3 (hA i (by simp [asgS, Tg.slots])) (se_frzA (se_dnew _)) rfl
    · rename_i h1; (try rw [h1]); exact ss_nev
  · -- x = v
    rename_i x py v pos _
    try dsimp only at hA ⊢
    split at hA
    · rename_i i h1
      try rw [h1]
      try dsimp only
      split at hA
      · rename_i ie h2
        try rw [h2]
        exact snd_asg ok tk h1 h2 (hA i (by simp [asgS, Tg.slots]))
      · rename_i h2; (try rw [h2]); exact ss_nev
    · rename_i h1; (try rw [h1]); exact ss_nev
  · -- x[k] = v
    rename_i x px k p v pos
    try dsimp only
    split
    · rename_i i h1
      split
      · rename_i ik h2
        split
        · rename_i iv h3
          obtain ⟨p1, p2, p3, p4⟩ := ok.vis h1
          have hs : isSlice k = false := by
            cases n with
            | zero => unfold cE at h2; cases h2
            | succ n =>
              cases k <;> first | rfl | (unfold cE at h2; cases h2)
          exact ss_sti ok.bs.un p1 p2 p3 p4 (S.e h2 ok tk).1 (S.e h3 ok tk).1 (as_sub hs) (show swapsWith v (some (.Subscript (.Name x px) k p)) pos.line X.env = pure false from sw_sub) swS_sub rfl
        · exact ss_nev
      · exact ss_nev
    · exact ss_nev
  · -- x.f = v
    rename_i x px f p v pos
    try dsimp only
    split
    · rename_i i h1
      split
      · rename_i c h2
        split
        · rename_i h3
          split
          · rename_i iv h4
            obtain ⟨p1, p2, p3, p4⟩ := ok.vis h1
            exact ss_sta ok.bs.K p1 p2 p3 p4 (S.e h4 ok.ft tk).1 (ok.bs.na c f (by simpa using h3)) sw_att
          · exact ss_nev
        · exact ss_nev
      · exact ss_nev
    · exact ss_nev
  · -- x, y = a, b
    rename_i x px y py kt pt a b k2 pt2 pos
    try dsimp only at hA ⊢
    split at hA
    · rename_i hb
      try rw [if_pos hb]
      simp only [Bool.and_eq_true, Bool.not_eq_true'] at hb
      split at hA
      · rename_i hc; (try rw [if_pos hc]); exact ss_nev
      · rename_i hc
        try rw [if_neg hc]
        split at hA
        · rename_i i h1
          try rw [h1]
          try dsimp only
          split at hA
          · rename_i j h2
            try rw [h2]
            try dsimp only
            split at hA
            · rename_i hij; (try rw [if_pos hij]); exact ss_nev
            · rename_i hij
              try rw [if_neg hij]
              split at hA
              · rename_i ia h3
                try rw [h3]
                try dsimp only
                split at hA
                · rename_i ib h4
                  try rw [h4]
                  have st := swB_star hb.1
                  have lo := locs2 hb.1
                  rw [← ok.sc] at lo hb
                  refine ss_par hA ok.bs.calm hN (ok.loc h1).1 (ok.loc h2).1 hij lo.2.1 lo.2.2 (sp_cons (se_frzA (S.e h3 ok tk).1) (sp_cons (se_frzA (S.e h4 ok tk).1) sp_nil (star_cons (st b (by simp)))) (star_cons (st a (by simp)))) ?_ (show swapsWith (.Tuple [a, b] k2 pt2) (some (.Tuple [.Name x px, .Name y py] kt pt)) pos.line X.env = pure false from sw_tup)
                  rw [swS_eq kd, if_pos hb.1, if_neg (by rw [hb.2]; exact Bool.false_ne_true), if_neg hc, lo.1]
                · rename_i h4; (try rw [h4]); exact ss_nev
              · rename_i h3; (try rw [h3]); exact ss_nev
          · rename_i h2; (try rw [h2]); exact ss_nev
        · rename_i h1; (try rw [h1]); exact ss_nev
    · rename_i hb
      try rw [if_neg hb]
      refine tup_asg (n := n) ok tk ?_ hA
      rw [swS_eq kd]
      rw [← ok.sc] at hb
      by_cases c1 : swB X.env.scope [.Name x px, .Name y py] [a, b] = true
      · try rw [if_pos c1]
        by_cases c2 : [a, b].all (foldedForSure 8) = true
        · try rw [if_pos c2]
        · exact absurd (by rw [c1, Bool.eq_false_iff.mpr c2]; rfl) hb
      · try rw [if_neg c1]
  · -- x, y, z = a, b, c
    rename_i x px y py z pz kt pt a b c k2 pt2 pos
    try dsimp only at hA ⊢
    split at hA
    · rename_i hb
      try rw [if_pos hb]
      simp only [Bool.and_eq_true, Bool.not_eq_true'] at hb
      split at hA
      · rename_i hc; (try rw [if_pos hc]); exact ss_nev
      · rename_i hc
        try rw [if_neg hc]
        split at hA
        · rename_i i h1
          try rw [h1]
          try dsimp only
          split at hA
          · rename_i j h2
            try rw [h2]
            try dsimp only
            split at hA
            · rename_i l h5
              try rw [h5]
              try dsimp only
              split at hA
              · rename_i hij; (try rw [if_pos hij]); exact ss_nev
              · rename_i hij
                try rw [if_neg hij]
                simp only [not_or] at hij
                split at hA
                · rename_i ia h3
                  try rw [h3]
                  try dsimp only
                  split at hA
                  · rename_i ib h4
                    try rw [h4]
                    try dsimp only
                    split at hA
                    · rename_i ic h6
                      try rw [h6]
                      have st := swB_star hb.1
                      have lo := locs3 hb.1
                      rw [← ok.sc] at lo hb
                      refine ss_par3 hA ok.bs.calm hN (ok.loc h1).1 (ok.loc h2).1 (ok.loc h5).1 hij.1 hij.2.1 hij.2.2 lo.2.1 lo.2.2.1 lo.2.2.2 (sp_cons (se_frzA (S.e h3 ok tk).1) (sp_cons (se_frzA (S.e h4 ok tk).1) (sp_cons (se_frzA (S.e h6 ok tk).1) sp_nil (star_cons (st c (by simp)))) (star_cons (st b (by simp)))) (star_cons (st a (by simp)))) ?_ (show swapsWith (.Tuple [a, b, c] k2 pt2) (some (.Tuple [.Name x px, .Name y py, .Name z pz] kt pt)) pos.line X.env = pure false from sw_tup)
                      rw [swS_eq kd, if_pos hb.1, if_neg (by rw [hb.2]; exact Bool.false_ne_true), if_neg hc, lo.1]
                    · rename_i h6; (try rw [h6]); exact ss_nev
                  · rename_i h4; (try rw [h4]); exact ss_nev
                · rename_i h3; (try rw [h3]); exact ss_nev
            · rename_i h5; (try rw [h5]); exact ss_nev
          · rename_i h2; (try rw [h2]); exact ss_nev
        · rename_i h1; (try rw [h1]); exact ss_nev
    · rename_i hb
      try rw [if_neg hb]
      refine tup_asg (n := n) ok tk ?_ hA
      rw [swS_eq kd]
      rw [← ok.sc] at hb
      by_cases c1 : swB X.env.scope [.Name x px, .Name y py, .Name z pz] [a, b, c] = true
      · try rw [if_pos c1]
        by_cases c2 : [a, b, c].all (foldedForSure 8) = true
        · try rw [if_pos c2]
        · exact absurd (by rw [c1, Bool.eq_false_iff.mpr c2]; rfl) hb
      · try rw [if_neg c1]
  · -- (..) = v
    rename_i es kt pt v pos _ _
    try dsimp only at hA ⊢
    split at hA
    · rename_i hc; (try rw [if_pos hc]); exact ss_nev
    · rename_i hc
      try rw [if_neg hc]
      exact tup_asg (n := n) ok tk (swS_tup (by simpa using hc)) hA
  · exact ss_nev
theorem sndS_all : ∀ n, SndS T Γ n
  | 0 => ⟨fun _ _ _ _ => by unfold cS; exact ss_nev, fun _ _ _ _ => by unfold cSs; exact sss_nev⟩
  | n + 1 =>
    have SS' := sndS_all n
    ⟨fun ok tk hp hA => sndS_s SS' ok tk hp hA, fun {C sts X W A} ok tk hp hA => by
      cases sts with
      | nil => unfold cSs; exact sss_nil
      | cons st sts =>
        unfold cSs at hA ⊢
        exact sss_cons (SS'.s ok tk hp fun i hi => hA i (List.mem_append_left _ hi)) (SS'.ss ok tk hp fun i hi => hA i (List.mem_append_right _ hi))⟩
end
end Mi
namespace Mi
open PySem PySem.Spec PyProof.Rows L2
section
variable {T : Tx} {Γ : Nat → FS} {ρ ρ' : Env} {σ σ0 : L2.St} {G H : Hp}
/-! ### a def's frame -/
theorem cut_get {l : List Nat} {m : Nat} {s : Slot} {i : Nat} (h : (outE l m ρ)[i]? = some s) : s = .non ∨ (ρ[i]? = some s ∧ i ∉ l ∧ i < m) := by
  unfold outE at h
  rcases wipeE_get h with h | ⟨h1, h2⟩
  · exact .inl h
  · rw [List.getElem?_take] at h1
    split at h1
    · rename_i hi; exact .inr ⟨h1, h2, hi⟩
    · cases h1
theorem cut_len {l : List Nat} {m : Nat} (hm : m ≤ ρ.length) : (outE l m ρ).length = m := by
  unfold outE
  rw [wipeE_len, List.length_take]
  omega
theorem Rep.cut {l : List Nat} {m : Nat} (R : Rep T ρ σ G H) (hm : m ≤ ρ.length) (hl : σ0.length = m) (hs : ∀ i, i ∉ l → i < m → σ[i]? = σ0[i]?) : Rep T (outE l m ρ) σ0 G H ∧ ∀ b, FpE (outE l m ρ) σ0 H b → FpE ρ σ H b := by
  have key : ∀ (j : Nat) (c : Cell), (outE l m ρ)[j]? = some (.own c) → ρ[j]? = some (.own c) ∧ σ0[j]? = σ[j]? := fun j c h => by
    rcases cut_get h with h | ⟨h1, h2, h3⟩
    · cases h
    · exact ⟨h1, (hs j h2 h3).symm⟩
  refine ⟨R.re (by rw [cut_len hm, hl]) (fun j d h => ?_) (fun j => j) key (fun _ _ _ _ _ _ q => q), fun b h => FpE.re (fun j => j) key h⟩
  rcases cut_get h with h | ⟨h1, h2, h3⟩
  · cases h
  · rw [← hs j h2 h3]
    exact R.val j d h1
theorem Rep.cutP {l : List Nat} {m : Nat} {s : Slot} {v : Option V} (R : Rep T (ρ ++ [s]) (σ ++ [v]) G H) (hm : m ≤ ρ.length) (hl : σ0.length = m) (hs : ∀ i, i ∉ l → i < m → σ[i]? = σ0[i]?) : Rep T (outE l m ρ ++ [s]) (σ0 ++ [v]) G H ∧ ∀ b, FpE (outE l m ρ ++ [s]) (σ0 ++ [v]) H b → FpE (ρ ++ [s]) (σ ++ [v]) H b := by
  have hls : ρ.length = σ.length := by simpa using R.len
  have key0 : ∀ (j : Nat) (e : Slot), (outE l m ρ ++ [s])[j]? = some e → e = .non ∨ ((ρ ++ [s])[if j = m then ρ.length else j]? = some e ∧ (σ0 ++ [v])[j]? = (σ ++ [v])[if j = m then ρ.length else j]?) := fun j e h => by
    rcases get_app h with h | ⟨q, h⟩
    · rcases cut_get h with h | ⟨h1, h2, h3⟩
      · exact .inl h
      · have hj := (List.getElem?_eq_some_iff.mp h1).1
        rw [if_neg (by omega)]
        refine .inr ⟨get_init h1, ?_⟩
        rw [List.getElem?_append_left (by omega), List.getElem?_append_left (by omega)]
        exact (hs j h2 h3).symm
    · rw [cut_len hm] at q
      rw [if_pos q, q]
      refine .inr ⟨by rw [get_last, h], ?_⟩
      rw [← hl, get_last, hls, get_last]
  have key : ∀ (j : Nat) (c : Cell), (outE l m ρ ++ [s])[j]? = some (.own c) → (ρ ++ [s])[if j = m then ρ.length else j]? = some (.own c) ∧ (σ0 ++ [v])[j]? = (σ ++ [v])[if j = m then ρ.length else j]? := fun j c h => by
    rcases key0 j _ h with h | h
    · cases h
    · exact h
  refine ⟨R.re (by simp [cut_len hm, hl]) (fun j d h => ?_) (fun j => if j = m then ρ.length else j) key (fun i j c e h1 h2 q => ?_), fun b h => FpE.re (fun j => if j = m then ρ.length else j) key h⟩
  · rcases key0 j _ h with h | ⟨h1, h2⟩
    · cases h
    · rw [h2]; exact R.val _ d h1
  · have hi := (List.getElem?_eq_some_iff.mp h1).1
    have hj := (List.getElem?_eq_some_iff.mp h2).1
    rw [List.length_append, cut_len hm] at hi hj
    simp only [List.length_singleton] at hi hj
    by_cases e1 : i = m <;> by_cases e2 : j = m
    · omega
    · rw [if_pos e1, if_neg e2] at q; omega
    · rw [if_neg e1, if_pos e2] at q; omega
    · rw [if_neg e1, if_neg e2] at q; exact q
theorem startE_get {n : Nat} {ss : List Slot} {i : Nat} {s : Slot} (h : (startE n ss)[i]? = some s) : ss[i]? = some s ∨ s = .non := by
  unfold startE at h
  by_cases hi : i < ss.length
  · rw [List.getElem?_append_left hi] at h; exact .inl h
  · rw [List.getElem?_append_right (by omega)] at h
    exact .inr (List.eq_of_mem_replicate (List.mem_of_getElem? h))
theorem Rep.start {ss : List Slot} {vs : List V} {N : List Str} (R : Rep T ss (vs.map some) G H) (hn : ss.length ≤ N.length) : Rep T (startE N.length ss) (L2.start N vs) G H ∧ (∀ b, FpE (startE N.length ss) (L2.start N vs) H b → FpE ss (vs.map some) H b) ∧ ∀ b, FpE ss (vs.map some) H b → FpE (startE N.length ss) (L2.start N vs) H b := by
  have hl : ss.length = vs.length := by simpa using R.len
  have low : ∀ {j : Nat}, j < ss.length → (L2.start N vs)[j]? = (vs.map some)[j]? := fun {j} hj => by
    unfold L2.start
    exact List.getElem?_append_left (by simp; omega)
  have key : ∀ (j : Nat) (c : Cell), (startE N.length ss)[j]? = some (.own c) → ss[j]? = some (.own c) ∧ (L2.start N vs)[j]? = (vs.map some)[j]? := fun j c h => by
    rcases startE_get h with h | h
    · exact ⟨h, low (List.getElem?_eq_some_iff.mp h).1⟩
    · cases h
  refine ⟨R.re (by unfold startE L2.start; simp; omega) (fun j d h => ?_) (fun j => j) key (fun _ _ _ _ _ _ q => q), fun b h => FpE.re (fun j => j) key h, fun b ⟨i, c, a, h1, h2, h3⟩ => ⟨i, c, a, ?_, ?_, h3⟩⟩
  · rcases startE_get h with h | h
    · rw [low (List.getElem?_eq_some_iff.mp h).1]; exact R.val j d h
    · cases h
  · unfold startE; rw [List.getElem?_append_left (List.getElem?_eq_some_iff.mp h1).1]; exact h1
  · rw [low (List.getElem?_eq_some_iff.mp h1).1]; exact h2
end
/-- a def's body keeps its promise -/
theorem def_ok {T : Tx} {Γ : Nat → FS} {P : Program} {w : World} {K : PySem.W.Frag} {mg : Str → Option Value} {base : Heap} {x qual : Str} {params : Arguments} {body : List Stmt} {scope : Scope} {dvs : List V} {kws : List (Str × V)} {f : Addr} {fd : FuncData} {N ps : List Str} {k n : Nat} {C : Cc}
    (F : FunD K x qual params body scope dvs kws f fd) (S : FnScope N ps scope) (hCN : C.N = N) (nd : N.Nodup) (hsc : C.sc = scope) (hk : scope.kind = .function)
    (hb : ∀ (cdv : Value) (A : Around) (outer : List PySem.Env) (s : Shared) (H : Hp) (E : XK), Room k (A.deeper (envOfC qual scope s.heap.objs.size f cdv)) → Base T Γ C (cxOf (L2.CX P w) P w K mg base N qual scope f cdv A outer s H E)) :
    FnOk P w K mg base (L2.CX P w) (k + 1) f fd ps (spF T ps.length (runD Γ N.length (cSs n C body))) := by
  refine F.ok S (fun vs H Q E h => h.1) fun cdv A outer s H vs Q E hr hsp => ?_
  obtain ⟨hlen, ss, G, Qp, Ep, R, ⟨⟨io, hn⟩, hwp⟩, hq, he⟩ := hsp
  have bs := hb cdv A outer s H E hr
  have ok : OkC T Γ C (cxOf (L2.CX P w) P w K mg base N qual scope f cdv A outer s H E) := ⟨hCN.symm, by rw [hCN]; exact nd, hsc.symm, fun _ _ => rfl, hk, bs⟩
  have tk : Takes (cxOf (L2.CX P w) P w K mg base N qual scope f cdv A outer s H E) (fun cls d _ H => E cls d H) := by
    refine takes_of rfl rfl rfl rfl
  have po := passes_of (X := cxOf (L2.CX P w) P w K mg base N qual scope f cdv A outer s H E) rfl
  refine ⟨_, (sndS_all n).ss (A := (· ∈ asgSs (cSs n C body))) ok tk po fun i hi => hi, ?_⟩
  obtain ⟨R0, f0, f0'⟩ := R.start hn
  have hls : ss.length = (vs.map some).length := R.len
  have low : ∀ {j : Nat}, j < ss.length → (L2.start N vs)[j]? = (vs.map some)[j]? := fun {j} hj => by
    unfold L2.start
    exact List.getElem?_append_left (by omega)
  have ag : ∀ {σ : L2.St}, SAg (· ∈ asgSs (cSs n C body)) (L2.start N vs) σ → ∀ i, i ∉ asgSs (cSs n C body) → i < ss.length → σ[i]? = (vs.map some)[i]? := fun {σ} a i h1 h2 => by rw [a.at_ i h1, low h2]
  have lenE : ∀ {σ : L2.St} {ρ : Env} {G1 H1 : Hp}, SAg (· ∈ asgSs (cSs n C body)) (L2.start N vs) σ → Rep T ρ σ G1 H1 → ss.length ≤ ρ.length := fun {σ ρ G1 H1} a R1 => by
    rw [R1.len, a.len]
    unfold L2.start
    simp
    simp at hls
    omega
  have st : ∀ {P' : Addr → Prop} {G1 H1 : Hp}, Step (FpE (startE N.length ss) (L2.start N vs) H) P' G H G1 H1 → Step (FpE ss (vs.map some) H) P' G H G1 H1 := fun {P' G1 H1} S1 => ⟨S1.gs, fun b e1 e2 => (S1.gn b e1 e2).imp (f0 b) id, fun b o e1 e2 => S1.fr b o e1 fun z => e2 (f0 b z), fun b hb => (S1.fp b hb).imp (f0 b) id⟩
  refine ⟨startE N.length ss, G, _, R0, hwp, ⟨fun ρ σ G1 H1 a S1 R1 q1 => ?_, fun _ _ _ _ _ _ _ z => z.elim, fun _ _ _ _ _ _ _ z => z.elim, fun r v ρ σ G1 H1 a S1 R1 hr1 q1 => ?_, fun y cls d ρ σ G1 H1 a S1 R1 xa q1 => ?_⟩⟩
  · obtain ⟨R2, f2⟩ := R1.cut (l := asgSs (cSs n C body)) (lenE a R1) hls.symm (ag a)
    exact hq (.val .non) _ q1 (fun i z => by cases z) (cut_len (lenE a R1)) .non G1 H1 ((st S1).weak f2) ⟨R2, rfl⟩
  · cases r with
    | val d =>
      obtain ⟨R2, f2⟩ := R1.1.cut (l := asgSs (cSs n C body)) (lenE a R1.1) hls.symm (ag a)
      exact hq (.val d) _ q1 hr1 (cut_len (lenE a R1.1)) v G1 H1 ((st S1).weak f2) ⟨R2, R1.2⟩
    | own c =>
      have hl1 : ss.length ≤ ρ.length := lenE a R1.2.init
      obtain ⟨R2, f2⟩ := R1.2.cutP (l := asgSs (cSs n C body)) hl1 hls.symm (ag a)
      exact hq (.own c) _ q1 hr1 (cut_len hl1) v G1 H1 ((st S1).weak f2) ⟨R1.1, R2⟩
    | slot i => exact absurd rfl (hr1 i)
  · obtain ⟨R2, f2⟩ := R1.cut (l := asgSs (cSs n C body)) (lenE a R1) hls.symm (ag a)
    exact he y _ q1 (cut_len (lenE a R1)) cls d G1 H1 ((st S1).weak f2) R2 xa
end Mi
namespace Mi
open PySem PySem.Spec PyProof.Rows L2
/-- a promise that implies another -/
theorem spF_imp {T : Tx} {n : Nat} {f g : FS} (h : ∀ ss Q E, g ss Q E → f ss Q E) : ∀ vs H Q E, spF T n g vs H Q E → spF T n f vs H Q E :=
  fun vs H Q E ⟨hl, ss, G, Qp, Ep, R, w, hq, he⟩ => ⟨hl, ss, G, Qp, Ep, R, h ss Qp Ep w, hq, he⟩
/-- a def of the text: where its object stands, its slots, its table -/
structure DefI where
  name : Str
  qual : Str
  st : Stmt
  N : List Str
  ps : List Str
  dvs : List V
def fnArgs : Stmt → Arguments
  | .FunctionDef _ a _ _ _ _ _ _ _ _ => a
  | _ => ⟨[], [], none, [], [], none, []⟩
def fnBd : Stmt → List Stmt
  | .FunctionDef _ _ b _ _ _ _ _ _ _ => b
  | _ => []
def fnSc : Stmt → Scope
  | .FunctionDef _ _ _ _ _ _ s _ _ _ => s
  | _ => default
/-- one def keeps its promise, from what it computes -/
theorem def_keeps {T : Tx} {Γ : Nat → FS} {P : Program} {w : World} {K : PySem.W.Frag} {mg : Str → Option Value} {base : Heap} {f : Addr} {fd : FuncData} {k n : Nat} {C : Cc} {d : DefI} {g : FS} {kws : List (Str × V)}
    (F : FunD K d.name d.qual (fnArgs d.st) (fnBd d.st) (fnSc d.st) d.dvs kws f fd) (S : FnScope d.N d.ps (fnSc d.st)) (hCN : C.N = d.N) (hsc : C.sc = fnSc d.st)
    (hb : ∀ (cdv : Value) (A : Around) (outer : List PySem.Env) (s : Shared) (H : Hp) (E : XK), Room k (A.deeper (envOfC d.qual (fnSc d.st) s.heap.objs.size f cdv)) → Base T Γ C (cxOf (L2.CX P w) P w K mg base d.N d.qual (fnSc d.st) f cdv A outer s H E))
    (hp : ∀ ss Q E, g ss Q E → runD Γ d.N.length (cSs n C (fnBd d.st)) ss Q E) : FnOk P w K mg base (L2.CX P w) (k + 1) f fd d.ps (spF T d.ps.length g) :=
  (def_ok F S hCN S.nd hsc S.kind hb).imp (spF_imp hp)
end Mi
namespace Mi
open PySem PySem.Spec PyProof.Rows L2
/-! ### the draw: expressions that give ints and change nothing -/
abbrev IF := L2.St → Hp → Option Int
def tIV (f : IF) : TE := fun σ H Q => ∃ i, f σ H = some i ∧ Q (.int i) H
def nilG : Hp := fun _ => none
theorem nilG_sub {H : Hp} : Same nilG H := fun _ _ e => by cases e
def fVar (i : Nat) : IF := fun σ _ => match σ[i]? with
  | some (some (.int n)) => some n
  | _ => none
def fCon (n : Int) : IF := fun _ _ => some n
def fGet (k : Str) : IF := fun σ H => match σ[0]? with
  | some (some (V.ref p)) => match H p with
    | some (HO.dK kvs) => match valV kvs (Sum.inr k) with
      | some (.int n) => some n
      | _ => none
    | _ => none
  | _ => none
def fBin (C : Int → Int → Bool) (r : Int → Int → Int) (f g : IF) : IF := fun σ H => match f σ H with
  | some i => match g σ H with
    | some j => if C i j = true then some (r i j) else none
    | none => none
  | none => none
section
variable {X : Cx} {T : Tx}
theorem iv_var {i : Nat} {x : Str} {pos : Pos} (hN : X.N[i]? = some x) (hv : Vis X.env.scope x) (hd : (x == ("__debug__" : Str)) = false) (hcd : (x == ("__classdict__" : Str)) = false) : PE X (.Name x pos) (tIV (fVar i)) := by
  refine pe_weak (pe_var hN hv hd hcd) fun σ H Q ⟨n, e, q⟩ => ?_
  unfold fVar at e
  split at e
  · rename_i m hm
    cases e
    exact ⟨_, hm, q⟩
  · cases e
theorem iv_con {n : Int} {j pos} : PE X (.Constant (.int n) j pos) (tIV (fCon n)) := pe_weak pe_int fun σ H Q ⟨i, e, q⟩ => by cases e; exact q
theorem iv_get {k : Str} {x : Str} {j : Nat} {px pk pos : Pos} (hu : X.A.units + 65 < cLine) (hN : X.N[0]? = some x) (hv : Vis X.env.scope x) (hd : (x == ("__debug__" : Str)) = false) (hcd : (x == ("__classdict__" : Str)) = false) :
    PE X (.Subscript (.Name x px) (.Constant (.str k) j pk) pos) (tIV (fGet k)) := by
  refine pe_weak (pe_dget (by omega) (pe_var hN hv hd hcd) pe_str (by intro _ _; rfl)) fun σ H Q ⟨n, e, q⟩ => ?_
  unfold fGet at e
  split at e
  · rename_i p hp
    split at e
    · rename_i kvs hk
      split at e
      · rename_i m hm
        cases e
        exact ⟨_, hp, p, _, rfl, by have := DGet.k (k := Sum.inr k) hk; rw [hm] at this; exact this, q⟩
      · cases e
    · cases e
  · cases e
theorem iv_op {a b : Expr} {f g : IF} {op : Operator} {pos : Pos} {P : Int → Int → Prop} {r : Int → Int → Int} {c : Int → Int → Bool} (ho : OpR X (binaryOp op) (rI P fun i j => .int (r i j))) (hc : ∀ i j, c i j = true → P i j) (ha : PE X a (tIV f)) (hb : PE X b (tIV g)) : PE X (.BinOp a op b pos) (tIV (fBin c r f g)) := by
  refine pe_weak (pe_op ho ha hb) fun σ H Q ⟨n, e, q⟩ => ?_
  unfold fBin at e
  split at e
  · rename_i i hi
    split at e
    · rename_i j hj
      split at e
      · rename_i hij
        cases e
        exact ⟨i, hi, j, hj, i, j, rfl, rfl, hc i j hij, q⟩
      · cases e
    · cases e
  · cases e
theorem iv_int {a : Expr} {f : IF} {p pos : Pos} (hg : Gl X "int") (hm : X.mg "int" = none) (ha : PE X a (tIV f)) (hs : isStar a = false) : PE X (.Call (.Name "int" p) [a] [] pos) (tIV f) := by
  refine pe_weak (pe_callTy call_int1 hg hm rfl (pa_cons ha pa_nil (star_cons hs)) (he := star_cons hs) (hpl := rfl)) fun σ H Q ⟨n, e, q⟩ => ?_
  exact ⟨n, e, .inl ⟨n, rfl, q⟩⟩
end
end Mi
namespace Mi
open PySem PySem.Spec PyProof.Rows L2
/-- a factor is small -/
def smallB (i j : Int) : Bool := (decide (-(2 ^ 64) < i) && decide (i < 2 ^ 64)) || (decide (-(2 ^ 64) < j) && decide (j < 2 ^ 64))
section
variable {X : Cx} {T : Tx}
theorem small_ok {i j : Int} (h : smallB i j = true) : CMul i j := by
  unfold smallB at h
  simp only [Bool.or_eq_true, Bool.and_eq_true, decide_eq_true_eq] at h
  exact h
def posB (_ j : Int) : Bool := decide (0 < j)
def divB (_ j : Int) : Bool := decide (0 < j) && decide (j.natAbs.log2 < 9000)
def yesB (_ _ : Int) : Bool := true
def fAdd (f g : IF) : IF := fBin yesB (fun i j => i + j) f g
def fMul (f g : IF) : IF := fBin smallB (fun i j => i * j) f g
def fMod (f g : IF) : IF := fBin posB (fun i j => i % j) f g
def fDiv (f g : IF) : IF := fBin divB (fun i j => i / j) f g
theorem iv_add {a b : Expr} {f g : IF} {pos : Pos} (ha : PE X a (tIV f)) (hb : PE X b (tIV g)) : PE X (.BinOp a .Add b pos) (tIV (fAdd f g)) := by
  refine iv_op (P := fun _ _ => True) (c := yesB) (r := fun i j => i + j) ?_ (fun _ _ _ => trivial) ha hb
  intro pins s σ H x y v u Q I rx ry ⟨i, j, e1, e2, _, q⟩
  exact op_add pins s σ H x y v u Q I rx ry ⟨i, j, e1, e2, q⟩
theorem iv_mul {a b : Expr} {f g : IF} {pos : Pos} (ha : PE X a (tIV f)) (hb : PE X b (tIV g)) : PE X (.BinOp a .Mult b pos) (tIV (fMul f g)) := iv_op op_mul (fun _ _ => small_ok) ha hb
theorem iv_mod {a b : Expr} {f g : IF} {pos : Pos} (ha : PE X a (tIV f)) (hb : PE X b (tIV g)) : PE X (.BinOp a .Mod b pos) (tIV (fMod f g)) := iv_op op_mod (fun _ _ h => of_decide_eq_true h) ha hb
theorem iv_div {a b : Expr} {f g : IF} {pos : Pos} (ha : PE X a (tIV f)) (hb : PE X b (tIV g)) : PE X (.BinOp a .FloorDiv b pos) (tIV (fDiv f g)) :=
  iv_op op_fdivW (fun _ _ h => by unfold divB at h; simp only [Bool.and_eq_true, decide_eq_true_eq] at h; exact h) ha hb
/-- draw[k] = e -/
theorem ps_put {e : Expr} {te : TE} {k x : Str} {j : Nat} {px pk p pos : Pos} (hu : X.A.units + 65 < cLine) (hN : X.N[0]? = some x) (hv : Vis X.env.scope x) (hd : (x == ("__debug__" : Str)) = false) (hcd : (x == ("__classdict__" : Str)) = false) (he : PE X e te) (hs : isComp e = false) :
    PS X (.Assign [.Subscript (.Name x px) (.Constant (.str k) j pk) p] e pos) (sDPut (tVar 0) (tC (.str k)) te) := ps_dput (by omega) (pe_var hN hv hd hcd) pe_str he (sw_no hs)
/-! ### lists within the draw -/
def lstOf (k : Str) (σ : L2.St) (H : Hp) : Option (Addr × List V) := match σ[0]? with
  | some (some (V.ref p)) => match H p with
    | some (HO.dK kvs) => match valV kvs (Sum.inr k) with
      | some (V.ref q) => match H q with
        | some (HO.lst xs) => some (q, xs)
        | _ => none
      | _ => none
    | _ => none
  | _ => none
def tLs (k : Str) : TE := fun σ H Q => ∃ q xs, lstOf k σ H = some (q, xs) ∧ Q (.ref q) H
theorem pe_ls {k : Str} {x : Str} {j : Nat} {px pk pos : Pos} (hu : X.A.units + 65 < cLine) (hN : X.N[0]? = some x) (hv : Vis X.env.scope x) (hd : (x == ("__debug__" : Str)) = false) (hcd : (x == ("__classdict__" : Str)) = false) :
    PE X (.Subscript (.Name x px) (.Constant (.str k) j pk) pos) (tLs k) := by
  refine pe_weak (pe_dget (by omega) (pe_var hN hv hd hcd) pe_str (by intro _ _; rfl)) fun σ H Q ⟨r, xs, e, q⟩ => ?_
  unfold lstOf at e
  split at e
  · rename_i p hp
    split at e
    · rename_i kvs hk
      split at e
      · rename_i m hm
        split at e
        · cases e
          exact ⟨_, hp, p, _, rfl, by have := DGet.k (k := Sum.inr k) hk; rw [hm] at this; exact this, q⟩
        · cases e
      · cases e
    · cases e
  · cases e
end
end Mi
namespace Mi
open PySem PySem.Spec PyProof.Rows L2
def drL (q c : Addr) (rest turn more : Int) : List (Key × V) := [(Sum.inr "great", .ref q), (Sum.inr "cells", .ref c), (Sum.inr "rest", .int rest), (Sum.inr "turn", .int turn), (Sum.inr "more", .int more)]
def drD (q c : Addr) (rest turn more : Int) : HO := .dK (drL q c rest turn more)
/-- the draw, its parts named -/
structure Dr (H : Hp) (p q c : Addr) (gs cs : List Int) (rest turn more : Int) : Prop where
  d : H p = some (drD q c rest turn more)
  g : H q = some (.lst (gs.map V.int))
  l : H c = some (.lst (cs.map V.int))
  pq : p ≠ q
  pc : p ≠ c
  qc : q ≠ c
theorem put_rest {q c : Addr} {rest turn more v : Int} : putK (drL q c rest turn more) (Sum.inr ("rest" : Str) : Key) (.int v) = drL q c v turn more := by rfl
theorem put_turn {q c : Addr} {rest turn more v : Int} : putK (drL q c rest turn more) (Sum.inr ("turn" : Str) : Key) (.int v) = drL q c rest v more := by rfl
theorem put_more {q c : Addr} {rest turn more v : Int} : putK (drL q c rest turn more) (Sum.inr ("more" : Str) : Key) (.int v) = drL q c rest turn v := by rfl
section
variable {H : Hp} {p q c : Addr} {gs cs : List Int} {rest turn more : Int} {σ : L2.St}
theorem Dr.get_rest (d : Dr H p q c gs cs rest turn more) (hs : σ[0]? = some (some (V.ref p))) : fGet "rest" σ H = some rest := by
  unfold fGet; rw [hs]; dsimp only; rw [d.d]; rfl
theorem Dr.get_turn (d : Dr H p q c gs cs rest turn more) (hs : σ[0]? = some (some (V.ref p))) : fGet "turn" σ H = some turn := by
  unfold fGet; rw [hs]; dsimp only; rw [d.d]; rfl
theorem Dr.get_more (d : Dr H p q c gs cs rest turn more) (hs : σ[0]? = some (some (V.ref p))) : fGet "more" σ H = some more := by
  unfold fGet; rw [hs]; dsimp only; rw [d.d]; rfl
theorem Dr.get_great (d : Dr H p q c gs cs rest turn more) (hs : σ[0]? = some (some (V.ref p))) : lstOf "great" σ H = some (q, gs.map V.int) := by
  have e : valV (drL q c rest turn more) (Sum.inr ("great" : Str) : Key) = some (.ref q) := by rfl
  unfold lstOf; rw [hs]; dsimp only; rw [d.d]; dsimp only [drD]; rw [e]; dsimp only; rw [d.g]
theorem Dr.get_cells (d : Dr H p q c gs cs rest turn more) (hs : σ[0]? = some (some (V.ref p))) : lstOf "cells" σ H = some (c, cs.map V.int) := by
  have e : valV (drL q c rest turn more) (Sum.inr ("cells" : Str) : Key) = some (.ref c) := by rfl
  unfold lstOf; rw [hs]; dsimp only; rw [d.d]; dsimp only [drD]; rw [e]; dsimp only; rw [d.l]
theorem Dr.put (d : Dr H p q c gs cs rest turn more) {r2 t2 m2 : Int} : Dr (upd H p (drD q c r2 t2 m2)) p q c gs cs r2 t2 m2 := ⟨upd_same, by rw [upd_ne d.pq.symm]; exact d.g, by rw [upd_ne d.pc.symm]; exact d.l, d.pq, d.pc, d.qc⟩
theorem Dr.pop (d : Dr H p q c gs cs rest turn more) {g2 : List Int} : Dr (upd H q (.lst (g2.map V.int))) p q c g2 cs rest turn more := ⟨by rw [upd_ne d.pq]; exact d.d, upd_same, by rw [upd_ne d.qc.symm]; exact d.l, d.pq, d.pc, d.qc⟩
theorem Dr.new (d : Dr H p q c gs cs rest turn more) {a : Addr} {o : HO} (na : H a = none) : Dr (upd H a o) p q c gs cs rest turn more :=
  ⟨by rw [upd_ne (ne_of_none d.d na)]; exact d.d, by rw [upd_ne (ne_of_none d.g na)]; exact d.g, by rw [upd_ne (ne_of_none d.l na)]; exact d.l, d.pq, d.pc, d.qc⟩
end
end Mi
namespace Mi
open PySem PySem.Spec PyProof.Rows L2
section
variable {X : Cx} {T : Tx}
/-- draw[k] != [] : a new empty list is laid -/
def tNe (k : Str) : TT := fun σ H Q => ∃ q ns, lstOf k σ H = some (q, (ns : List Int).map V.int) ∧ ∀ p, H p = none → Q (!ns.isEmpty) (upd H p (.lst []))
theorem ints_dps {G : Hp} : ∀ ns : List Int, Dps T G (ns.map D.int) (ns.map V.int)
  | [] => rfl
  | n :: ns => ⟨_, _, rfl, rfl, ints_dps ns⟩
theorem ints_plain : ∀ ns : List Int, D.plains (ns.map D.int) = true
  | [] => rfl
  | n :: ns => by show (true && D.plains (ns.map D.int)) = true; rw [ints_plain ns]; rfl
theorem lst_at {k : Str} {σ : L2.St} {H : Hp} {q : Addr} {xs : List V} (h : lstOf k σ H = some (q, xs)) : H q = some (.lst xs) := by
  unfold lstOf at h
  split at h
  · split at h
    · split at h
      · split at h
        · rename_i e; cases h; exact e
        · cases h
      · cases h
    · cases h
  · cases h
theorem pt_ne {k x : Str} {j : Nat} {px pk p1 p2 pos : Pos} (hK : X.K = T.K) (hu : X.A.units + 65 < cLine) (hN : X.N[0]? = some x) (hv : Vis X.env.scope x) (hd : (x == ("__debug__" : Str)) = false) (hcd : (x == ("__classdict__" : Str)) = false) :
    PT X (.Compare (.Subscript (.Name x px) (.Constant (.str k) j pk) p1) [.NotEq] [.List [] p2] pos) (tNe k) := by
  refine pt_weak (pt_cmpR (op_cmp hK hu .NotEq) (pe_ls hu hN hv hd hcd) (pe_lst pa_nil) rfl) fun σ H Q ⟨q, ns, e, h⟩ => ?_
  refine ⟨q, _, e, Nat.zero_le _, fun p np => ?_⟩
  have hq := lst_at e
  have ne : q ≠ p := ne_of_none hq np
  refine ⟨nilG, .lst (ns.map D.int), .lst [], fun b => b = !ns.isEmpty, nilG_sub, .inr ⟨q, .lst (ns.map D.int), rfl, rfl, _, by rw [upd_ne ne]; exact hq, ints_dps ns⟩, .inr ⟨p, .lst [], rfl, rfl, [], upd_same, rfl⟩, ⟨⟨ints_plain ns, rfl, ?_⟩, ?_⟩, fun b hb => ⟨b, rfl, ?_⟩⟩
  · show min _ (0 + 1) ≤ 60
    omega
  · cases ns <;> rfl
  · rw [hb]; exact h p np
end
end Mi
namespace Mi
open PySem PySem.Spec PyProof.Rows L2
section
variable {X : Cx} {T : Tx}
/-- draw[k].pop(0) -/
def tPop (k : Str) : TE := fun σ H Q => ∃ q y ys, lstOf k σ H = some (q, y :: ys) ∧ Q y (upd H q (.lst ys))
theorem pe_pop {k x : Str} {j j2 : Nat} {px pk p1 p2 ap pos : Pos} (hu : X.A.units + 65 < cLine) (hN : X.N[0]? = some x) (hv : Vis X.env.scope x) (hd : (x == ("__debug__" : Str)) = false) (hcd : (x == ("__classdict__" : Str)) = false) (hl : (ap.endLine == pos.line) = true) :
    PE X (.Call (.Attribute (.Subscript (.Name x px) (.Constant (.str k) j pk) p1) "pop" ap) [.Constant (.int 0) j2 p2] [] pos) (tPop k) := by
  refine pe_weak (pe_ml (name := "pop") ⟨rfl, rfl, hl, rfl, rfl⟩ (pe_ls hu hN hv hd hcd) (pa_cons pe_int pa_nil rfl)) fun σ H Q ⟨q, y, ys, e, h⟩ => ?_
  have hq := lst_at e
  refine ⟨q, _, e, _, _, _, u_pop, ty_list (SqL.of hq), ?_⟩
  exact ⟨q, y :: ys, 0, 0, y, rfl, rfl, hq, by decide, by decide, (ixG_seq (n := (y :: ys).length) (i := 0) (j := 0) (by unfold ixG; rw [if_pos (by decide), if_pos (by simp)]; rfl)).1, rfl, h⟩
/-- draw[k][i] -/
def absD : V → D
  | .int n => .int n
  | _ => .bot
theorem abs_dps {G : Hp} : ∀ xs : List V, Dps T G (xs.map absD) xs
  | [] => rfl
  | v :: xs => ⟨v, xs, rfl, by cases v <;> first | rfl | trivial, abs_dps xs⟩
def fAt (k : Str) (f : IF) : IF := fun σ H => match lstOf k σ H with
  | some (_, xs) => match f σ H with
    | some i => match atG xs i with
      | some (V.int n) => some n
      | _ => none
    | none => none
  | none => none
theorem iv_at {k x : Str} {e : Expr} {f : IF} {j : Nat} {px pk p1 pos : Pos} (hK : X.K = T.K) (hu : X.A.units + 65 < cLine) (hN : X.N[0]? = some x) (hv : Vis X.env.scope x) (hd : (x == ("__debug__" : Str)) = false) (hcd : (x == ("__classdict__" : Str)) = false) (he : PE X e (tIV f)) (hs : isSlice e = false) :
    PE X (.Subscript (.Subscript (.Name x px) (.Constant (.str k) j pk) p1) e pos) (tIV (fAt k f)) := by
  refine pe_weak (pe_ix (ix_sub hK hu) (pe_ls hu hN hv hd hcd) he (plain_ix hs)) fun σ H Q ⟨n, en, h⟩ => ?_
  unfold fAt at en
  split at en
  · rename_i q xs e1
    split at en
    · rename_i i e2
      split at en
      · rename_i m e3
        cases en
        have hq := lst_at e1
        have e4 : atG (xs.map absD) i = some (.int n) := by
          unfold atG at e3 ⊢
          rw [List.length_map]
          cases q2 : ixG xs.length i with
          | none => rw [q2] at e3; cases e3
          | some t =>
            rw [q2] at e3
            have e5 : xs[t]? = some (V.int n) := e3
            show (xs.map absD)[t]? = _
            rw [List.getElem?_map, e5]; rfl
        refine ⟨q, xs, e1, i, e2, nilG, .lst (xs.map absD), .int i, fun d => d = .int n, nilG_sub, .inr ⟨q, .lst (xs.map absD), rfl, rfl, xs, hq, abs_dps xs⟩, .inl rfl, ?_, fun d v dv hd => ?_⟩
        · show (match atG (xs.map absD) i with | some d => d = D.int n | none => False)
          rw [e4]
        · subst hd; cases dv; exact h
      · cases en
    · cases en
  · cases en
end
end Mi
namespace Mi
open PySem PySem.Spec PyProof.Rows L2
section
variable {X : Cx} {T : Tx}
def fLen (k : Str) : IF := fun σ H => match lstOf k σ H with
  | some (_, xs) => some (xs.length : Int)
  | none => none
theorem iv_len {k x : Str} {j : Nat} {px pk p1 p pos : Pos} (hu : X.A.units + 65 < cLine) (hg : Gl X "len") (hm : X.mg "len" = none) (hN : X.N[0]? = some x) (hv : Vis X.env.scope x) (hd : (x == ("__debug__" : Str)) = false) (hcd : (x == ("__classdict__" : Str)) = false) :
    PE X (.Call (.Name "len" p) [.Subscript (.Name x px) (.Constant (.str k) j pk) p1] [] pos) (tIV (fLen k)) := by
  refine pe_weak (pe_callB call_len hg hm rfl (pa_cons (pe_ls hu hN hv hd hcd) pa_nil rfl)) fun σ H Q ⟨n, en, h⟩ => ?_
  unfold fLen at en
  split at en
  · rename_i q xs e1
    cases en
    exact ⟨q, xs, e1, _, xs.length, rfl, .inl ⟨xs, SqL.of (lst_at e1), rfl⟩, h⟩
  · cases en
end
end Mi
namespace Mi
open PySem PySem.Spec PyProof.Rows L2
/-! ### _law_take: its reading -/
def tkWhile : TS := tWhile (tAnd (tTest (tOp rEq (tIV (fGet "rest")) (tIV (fCon 0)))) (tNe "great")) (sDPut (tVar 0) (tC (.str "rest")) (tPop "great"))
def tkIf : TS := tIfS (tTest (tOp (rI0 fun i j => .bl (decide (j < i))) (tIV (fGet "rest")) (tIV (fCon 0))))
  (tSeq (tAsg (tIV (fMod (fGet "rest") (fVar 1))) (gName 4)) (tSeq (sDPut (tVar 0) (tC (.str "rest")) (tIV (fDiv (fGet "rest") (fVar 1)))) (tRet (tIV (fVar 4))))) tNext
def tkCell : TS := tIfS (tNe "cells") (tAsg (tIV (fAt "cells" (fMod (fGet "turn") (fLen "cells")))) (gName 2)) tNext
def tkMore : TS := sDPut (tVar 0) (tC (.str "more")) (tIV (fMod (fAdd (fAdd (fMul (fGet "more") (fCon 48271)) (fVar 2)) (fMul (fCon 7919) (fGet "turn"))) (fCon 2147483647)))
def tkMix : TS := tAsg (tIV (fMod (fAdd (fAdd (fMul (fGet "more") (fGet "more")) (fMul (fCon 16807) (fGet "more"))) (fCon 11)) (fCon 2147483629))) (gName 3)
def tkRet : TS := tRet (tIV (fMod (fDiv (fMod (fMul (fVar 3) (fVar 3)) (fCon 2147483587)) (fCon 7)) (fVar 1)))
def takeT : TS := tSeq tkWhile (tSeq tkIf (tSeq (tAsg (tIV (fCon 0)) (gName 2)) (tSeq tkCell (tSeq (sDPut (tVar 0) (tC (.str "turn")) (tIV (fAdd (fGet "turn") (fCon 1)))) (tSeq tkMore (tSeq tkMix tkRet))))))
end Mi
namespace Mi
open PySem PySem.Spec PyProof.Rows L2
/-- what a draw leaves -/
structure DrK (H0 : Hp) (p q c : Addr) (cs : List Int) (H : Hp) : Prop where
  ex : ∃ gs rest turn more, Dr H p q c gs cs rest turn more ∧ gs.length ≤ 63 ∧ (∀ g ∈ gs, 0 < g) ∧ 0 ≤ rest ∧ 0 ≤ turn ∧ 0 ≤ more ∧ more < 2147483647
  fr : ∀ b o, H0 b = some o → b ≠ p → b ≠ q → b ≠ c → H b = some o
section
variable {H0 H : Hp} {p q c : Addr} {cs : List Int}
theorem DrK.new (h : DrK H0 p q c cs H) {a : Addr} {o : HO} (na : H a = none) : DrK H0 p q c cs (upd H a o) := by
  obtain ⟨⟨gs, r, t, m, d, rest⟩, fr⟩ := h
  exact ⟨⟨gs, r, t, m, d.new na, rest⟩, fun b o' e h1 h2 h3 => by rw [upd_ne (ne_of_none (fr b o' e h1 h2 h3) na)]; exact fr b o' e h1 h2 h3⟩
theorem fCon_eq {n : Int} {σ : L2.St} {H : Hp} : fCon n σ H = some n := rfl
theorem fBin_eq {C : Int → Int → Bool} {r : Int → Int → Int} {f g : IF} {σ : L2.St} {H : Hp} {i j : Int} (h1 : f σ H = some i) (h2 : g σ H = some j) (hc : C i j = true) : fBin C r f g σ H = some (r i j) := by
  unfold fBin; rw [h1]; dsimp only; rw [h2]; dsimp only; rw [if_pos hc]
theorem fVar_eq {k : Nat} {n : Int} {σ : L2.St} {H : Hp} (h : σ[k]? = some (some (V.int n))) : fVar k σ H = some n := by
  unfold fVar; rw [h]
end
end Mi
namespace Mi
open PySem PySem.Spec PyProof.Rows L2
section
variable {H0 H : Hp} {p q c : Addr} {cs : List Int} {σ : L2.St} {Q : VK} {D : Ends} {many : Int}
theorem ret_ok {mx : Int} (hD : D.rt = Q) (k : DrK H0 p q c cs H) (h1 : σ[1]? = some (some (V.int many))) (h3 : σ[3]? = some (some (V.int mx))) (hm : 0 ≤ mx ∧ mx < 2147483629) (h0 : 0 < many) (hQ : ∀ r H', 0 ≤ r → r < many → DrK H0 p q c cs H' → Q (.int r) H') : tkRet D σ H := by
  have e1 := fVar_eq (H := H) h3
  have e2 : fMul (fVar 3) (fVar 3) σ H = some (mx * mx) := fBin_eq e1 e1 (by unfold smallB; simp; omega)
  have e3 : fMod (fMul (fVar 3) (fVar 3)) (fCon 2147483587) σ H = some (mx * mx % 2147483587) := fBin_eq e2 fCon_eq rfl
  have e4 : fDiv (fMod (fMul (fVar 3) (fVar 3)) (fCon 2147483587)) (fCon 7) σ H = some (mx * mx % 2147483587 / 7) := fBin_eq e3 fCon_eq (by unfold divB; decide)
  have e5 : fMod (fDiv (fMod (fMul (fVar 3) (fVar 3)) (fCon 2147483587)) (fCon 7)) (fVar 1) σ H = some (mx * mx % 2147483587 / 7 % many) := fBin_eq e4 (fVar_eq h1) (by unfold posB; simpa using h0)
  refine ⟨_, e5, ?_⟩
  rw [hD]
  exact hQ _ H (Int.emod_nonneg _ (by omega)) (Int.emod_lt_of_pos _ h0) k
theorem mix_ok {u : TS} (k : DrK H0 p q c cs H) (hs : σ[0]? = some (some (V.ref p))) (hl : σ.length = 5) (hu : ∀ mx : Int, 0 ≤ mx → mx < 2147483629 → u D (σ.set 3 (some (.int mx))) H) : tSeq tkMix u D σ H := by
  obtain ⟨gs, rest, turn, more, d, g1, g2, g3, g4, g5, g6⟩ := k.ex
  have e1 := d.get_more hs
  have e2 : fMul (fGet "more") (fGet "more") σ H = some (more * more) := fBin_eq e1 e1 (by unfold smallB; simp; omega)
  have e3 : fMul (fCon 16807) (fGet "more") σ H = some (16807 * more) := fBin_eq fCon_eq e1 (by unfold smallB; simp)
  have e4 : fAdd (fMul (fGet "more") (fGet "more")) (fMul (fCon 16807) (fGet "more")) σ H = some (more * more + 16807 * more) := fBin_eq e2 e3 rfl
  have e5 : fAdd (fAdd (fMul (fGet "more") (fGet "more")) (fMul (fCon 16807) (fGet "more"))) (fCon 11) σ H = some (more * more + 16807 * more + 11) := fBin_eq e4 fCon_eq rfl
  have e6 : fMod (fAdd (fAdd (fMul (fGet "more") (fGet "more")) (fMul (fCon 16807) (fGet "more"))) (fCon 11)) (fCon 2147483629) σ H = some ((more * more + 16807 * more + 11) % 2147483629) := fBin_eq e5 fCon_eq rfl
  exact ⟨_, e6, hu _ (Int.emod_nonneg _ (by decide)) (Int.emod_lt_of_pos _ (by decide))⟩
/-- a store into the draw -/
theorem put_ok {k : Str} {f : IF} {i : Int} {gs : List Int} {rest turn more r2 t2 m2 : Int} (d : Dr H p q c gs cs rest turn more) (hs : σ[0]? = some (some (V.ref p))) (hf : f σ H = some i) (hp : putK (drL q c rest turn more) (Sum.inr k) (.int i) = drL q c r2 t2 m2) (hn : D.nx σ (upd H p (drD q c r2 t2 m2))) :
    sDPut (tVar 0) (tC (.str k)) (tIV f) D σ H := by
  refine ⟨i, hf, _, hs, p, _, rfl, DPut.k (k := Sum.inr k) d.d (by rw [sizeLine_eq]; show 5 < 16777216; decide), ?_⟩
  rw [hp]
  exact hn
end
end Mi
namespace Mi
open PySem PySem.Spec PyProof.Rows L2
section
variable {H0 H : Hp} {p q c : Addr} {cs : List Int} {σ : L2.St} {Q : VK} {D : Ends} {many : Int}
theorem DrK.put (h : DrK H0 p q c cs H) {gs : List Int} {rest turn more r2 t2 m2 : Int} (d : Dr H p q c gs cs rest turn more) (hg : gs.length ≤ 63 ∧ ∀ g ∈ gs, 0 < g) (hb : 0 ≤ r2 ∧ 0 ≤ t2 ∧ 0 ≤ m2 ∧ m2 < 2147483647) : DrK H0 p q c cs (upd H p (drD q c r2 t2 m2)) :=
  ⟨⟨gs, r2, t2, m2, d.put, hg.1, hg.2, hb.1, hb.2.1, hb.2.2.1, hb.2.2.2⟩, fun b o e h1 h2 h3 => by rw [upd_ne h1]; exact h.fr b o e h1 h2 h3⟩
theorem more_ok {u : TS} {cell : Int} (k : DrK H0 p q c cs H) (hs : σ[0]? = some (some (V.ref p))) (h2 : σ[2]? = some (some (V.int cell))) (hu : ∀ H', DrK H0 p q c cs H' → u D σ H') : tSeq tkMore u D σ H := by
  obtain ⟨gs, rest, turn, more, d, g1, g2, g3, g4, g5, g6⟩ := k.ex
  have e1 := d.get_more hs
  have e2 : fMul (fGet "more") (fCon 48271) σ H = some (more * 48271) := fBin_eq e1 fCon_eq (by unfold smallB; simp)
  have e3 : fAdd (fMul (fGet "more") (fCon 48271)) (fVar 2) σ H = some (more * 48271 + cell) := fBin_eq e2 (fVar_eq h2) rfl
  have e4 : fMul (fCon 7919) (fGet "turn") σ H = some (7919 * turn) := fBin_eq fCon_eq (d.get_turn hs) (by unfold smallB; simp)
  have e5 : fAdd (fAdd (fMul (fGet "more") (fCon 48271)) (fVar 2)) (fMul (fCon 7919) (fGet "turn")) σ H = some (more * 48271 + cell + 7919 * turn) := fBin_eq e3 e4 rfl
  have e6 : fMod (fAdd (fAdd (fMul (fGet "more") (fCon 48271)) (fVar 2)) (fMul (fCon 7919) (fGet "turn"))) (fCon 2147483647) σ H = some ((more * 48271 + cell + 7919 * turn) % 2147483647) := fBin_eq e5 fCon_eq rfl
  exact put_ok d hs e6 put_more (hu _ (k.put d ⟨g1, g2⟩ ⟨g3, g4, Int.emod_nonneg _ (by decide), Int.emod_lt_of_pos _ (by decide)⟩))
theorem turn_ok {u : TS} (k : DrK H0 p q c cs H) (hs : σ[0]? = some (some (V.ref p))) (hu : ∀ H', DrK H0 p q c cs H' → u D σ H') : tSeq (sDPut (tVar 0) (tC (.str "turn")) (tIV (fAdd (fGet "turn") (fCon 1)))) u D σ H := by
  obtain ⟨gs, rest, turn, more, d, g1, g2, g3, g4, g5, g6⟩ := k.ex
  have e1 : fAdd (fGet "turn") (fCon 1) σ H = some (turn + 1) := fBin_eq (d.get_turn hs) fCon_eq rfl
  exact put_ok d hs e1 put_turn (hu _ (k.put d ⟨g1, g2⟩ ⟨g3, by omega, g5, g6⟩))
theorem cell_ok {u : TS} (k : DrK H0 p q c cs H) (hs : σ[0]? = some (some (V.ref p))) (h2 : σ[2]? = some (some (V.int 0))) (hl : 2 < σ.length) (hu : ∀ cell H', DrK H0 p q c cs H' → u D (σ.set 2 (some (.int cell))) H') : tSeq tkCell u D σ H := by
  obtain ⟨gs, rest, turn, more, d, g1, g2, g3, g4, g5, g6⟩ := k.ex
  refine ⟨c, cs, d.get_cells hs, fun a na => ?_⟩
  have k2 := k.new (o := .lst []) na
  have d2 := d.new (o := .lst []) na
  cases cs with
  | nil =>
    refine iteF ?_
    have e : σ.set 2 (some (.int 0)) = σ := by
      apply List.ext_getElem?
      intro i
      by_cases hi : 2 = i
      · subst hi; rw [List.getElem?_set_self hl, h2]
      · rw [List.getElem?_set_ne hi]
    have := hu 0 _ k2
    rw [e] at this
    exact this
  | cons c0 cs =>
    refine iteT ?_
    have e1 : fLen "cells" σ (upd H a (.lst [])) = some (((c0 :: cs).map V.int).length : Int) := by unfold fLen; rw [d2.get_cells hs]
    have hpos : (0 : Int) < (((c0 :: cs).map V.int).length : Int) := by simp
    have e2 : fMod (fGet "turn") (fLen "cells") σ (upd H a (.lst [])) = some (turn % (((c0 :: cs).map V.int).length : Int)) := fBin_eq (d2.get_turn hs) e1 (by unfold posB; simpa using hpos)
    have b1 := Int.emod_nonneg turn (Int.ne_of_gt hpos)
    have b2 := Int.emod_lt_of_pos turn hpos
    obtain ⟨n, hn⟩ : ∃ n : Int, atG ((c0 :: cs).map V.int) (turn % (((c0 :: cs).map V.int).length : Int)) = some (V.int n) := by
      unfold atG ixG
      rw [if_pos b1, if_pos b2]
      have hlt : (turn % (((c0 :: cs).map V.int).length : Int)).toNat < (c0 :: cs).length := by
        have e : (c0 :: cs).length = ((c0 :: cs).map V.int).length := by rw [List.length_map]
        rw [e]; omega
      show ∃ n, ((c0 :: cs).map V.int)[(turn % (((c0 :: cs).map V.int).length : Int)).toNat]? = some (V.int n)
      refine ⟨(c0 :: cs)[(turn % (((c0 :: cs).map V.int).length : Int)).toNat]'hlt, ?_⟩
      rw [List.getElem?_map, List.getElem?_eq_getElem hlt]; rfl
    have e3 : fAt "cells" (fMod (fGet "turn") (fLen "cells")) σ (upd H a (.lst [])) = some n := by
      unfold fAt; rw [d2.get_cells hs]; dsimp only; rw [e2]; dsimp only; rw [hn]
    exact ⟨n, e3, hu n _ k2⟩
end
end Mi
namespace Mi
open PySem PySem.Spec PyProof.Rows L2
theorem iteT' {c A B : Prop} [Decidable c] (h : c) (a : A) : if c then A else B := by rw [if_pos h]; exact a
theorem iteF' {c A B : Prop} [Decidable c] (h : ¬ c) (b : B) : if c then A else B := by rw [if_neg h]; exact b
section
variable {H0 H : Hp} {p q c : Addr} {cs : List Int} {σ : L2.St} {Q : VK} {D : Ends} {many : Int}
theorem DrK.pop (h : DrK H0 p q c cs H) {gs g2 : List Int} {rest turn more : Int} (d : Dr H p q c gs cs rest turn more) (hg : g2.length ≤ 63 ∧ ∀ g ∈ g2, 0 < g) (hb : 0 ≤ rest ∧ 0 ≤ turn ∧ 0 ≤ more ∧ more < 2147483647) : DrK H0 p q c cs (upd H q (.lst (g2.map V.int))) :=
  ⟨⟨g2, rest, turn, more, d.pop, hg.1, hg.2, hb.1, hb.2.1, hb.2.2.1, hb.2.2.2⟩, fun b o e h1 h2 h3 => by rw [upd_ne h2]; exact h.fr b o e h1 h2 h3⟩
/-- the tail behind the digits -/
theorem tail_ok (hD : D.rt = Q) (k : DrK H0 p q c cs H) (hs : σ[0]? = some (some (V.ref p))) (h1 : σ[1]? = some (some (V.int many))) (hl : σ.length = 5) (h0 : 0 < many) (hQ : ∀ r H', 0 ≤ r → r < many → DrK H0 p q c cs H' → Q (.int r) H') :
    tSeq (tAsg (tIV (fCon 0)) (gName 2)) (tSeq tkCell (tSeq (sDPut (tVar 0) (tC (.str "turn")) (tIV (fAdd (fGet "turn") (fCon 1)))) (tSeq tkMore (tSeq tkMix tkRet)))) D σ H := by
  refine ⟨0, rfl, ?_⟩
  have s0 : ∀ (x : Int), (σ.set 2 (some (V.int x)))[0]? = some (some (V.ref p)) := fun x => by rw [List.getElem?_set_ne (by decide)]; exact hs
  have s1 : ∀ (x : Int), (σ.set 2 (some (V.int x)))[1]? = some (some (V.int many)) := fun x => by rw [List.getElem?_set_ne (by decide)]; exact h1
  have s2 : ∀ (x : Int), (σ.set 2 (some (V.int x)))[2]? = some (some (V.int x)) := fun x => List.getElem?_set_self (by omega)
  refine cell_ok k (s0 0) (s2 0) (by simp [hl]) fun cell H1 k1 => ?_
  rw [List.set_set]
  refine turn_ok k1 (s0 cell) fun H2 k2 => ?_
  refine more_ok k2 (s0 cell) (s2 cell) fun H3 k3 => ?_
  refine mix_ok k3 (s0 cell) (by simp [hl]) fun mx m0 m1 => ?_
  refine ret_ok (mx := mx) hD k3 ?_ ?_ ⟨m0, m1⟩ h0 hQ
  · rw [List.getElem?_set_ne (by decide)]; exact s1 cell
  · exact List.getElem?_set_self (by simp [hl])
/-- digits are there, or not -/
theorem if_ok {u : TS} (hD : D.rt = Q) (k : DrK H0 p q c cs H) (hs : σ[0]? = some (some (V.ref p))) (h1 : σ[1]? = some (some (V.int many))) (hl : σ.length = 5) (h0 : 0 < many ∧ many.natAbs.log2 < 9000) (hQ : ∀ r H', 0 ≤ r → r < many → DrK H0 p q c cs H' → Q (.int r) H')
    (hu : u D σ H) : tSeq tkIf u D σ H := by
  obtain ⟨gs, rest, turn, more, d, g1, g2, g3, g4, g5, g6⟩ := k.ex
  have e1 := d.get_rest hs
  refine ⟨rest, e1, 0, rfl, rest, 0, rfl, rfl, _, rfl, ?_⟩
  by_cases hr : 0 < rest
  · refine iteT' ?_ ?_
    · simpa using hr
    have e2 : fMod (fGet "rest") (fVar 1) σ H = some (rest % many) := fBin_eq e1 (fVar_eq h1) (by unfold posB; simpa using h0.1)
    refine ⟨_, e2, ?_⟩
    have s0 : (σ.set 4 (some (V.int (rest % many))))[0]? = some (some (V.ref p)) := by rw [List.getElem?_set_ne (by decide)]; exact hs
    have s1 : (σ.set 4 (some (V.int (rest % many))))[1]? = some (some (V.int many)) := by rw [List.getElem?_set_ne (by decide)]; exact h1
    have s4 : (σ.set 4 (some (V.int (rest % many))))[4]? = some (some (V.int (rest % many))) := List.getElem?_set_self (by omega)
    have e3 : fDiv (fGet "rest") (fVar 1) (σ.set 4 (some (V.int (rest % many)))) H = some (rest / many) := fBin_eq (d.get_rest s0) (fVar_eq s1) (by unfold divB; simp [h0.1, h0.2])
    refine put_ok d s0 e3 put_rest ?_
    refine ⟨_, fVar_eq s4, ?_⟩
    show D.rt _ _
    rw [hD]
    exact hQ _ _ (Int.emod_nonneg _ (by omega)) (Int.emod_lt_of_pos _ h0.1) (k.put d ⟨g1, g2⟩ ⟨Int.ediv_nonneg g3 (by omega), g4, g5, g6⟩)
  · refine iteF' ?_ hu
    simpa using hr
end
end Mi
namespace Mi
open PySem PySem.Spec PyProof.Rows L2
section
variable {H0 H : Hp} {p q c : Addr} {cs : List Int} {σ : L2.St} {Q : VK} {D : Ends} {many : Int}
theorem while_ok {u : TS} (k : DrK H0 p q c cs H) (hs : σ[0]? = some (some (V.ref p))) (hu : ∀ H', DrK H0 p q c cs H' → u D σ H') : tSeq tkWhile u D σ H := by
  obtain ⟨gs, rest, turn, more, d, g1, g2, g3, g4, g5, g6⟩ := k.ex
  refine ⟨fun m σ' H' => σ' = σ ∧ (∀ b o, H0 b = some o → b ≠ p → b ≠ q → b ≠ c → H' b = some o) ∧ ∃ gs rest turn more, gs.length = m ∧ Dr H' p q c gs cs rest turn more ∧ gs.length ≤ 63 ∧ (∀ g ∈ gs, 0 < g) ∧ 0 ≤ rest ∧ 0 ≤ turn ∧ 0 ≤ more ∧ more < 2147483647, ⟨gs.length, rfl, k.fr, gs, rest, turn, more, rfl, d, g1, g2, g3, g4, g5, g6⟩, ?_⟩
  rintro m σ1 H1 ⟨rfl, fr, gs, rest, turn, more, hm, d, g1, g2, g3, g4, g5, g6⟩
  have k1 : DrK H0 p q c cs H1 := ⟨⟨gs, rest, turn, more, d, g1, g2, g3, g4, g5, g6⟩, fr⟩
  refine ⟨rest, d.get_rest hs, 0, rfl, rfl, _, rfl, ?_⟩
  by_cases hr : rest = 0
  · refine iteT' (by simp [hr]) ?_
    refine ⟨q, gs, d.get_great hs, fun a na => ?_⟩
    have k2 := k1.new (o := .lst []) na
    have d2 := d.new (o := .lst []) na
    cases gs with
    | nil => exact iteF (hu _ k2)
    | cons g0 gs =>
      refine iteT ⟨fun σ' H' => σ' = σ1 ∧ (∀ b o, H0 b = some o → b ≠ p → b ≠ q → b ≠ c → H' b = some o) ∧ ∃ rest turn more, Dr H' p q c gs cs rest turn more ∧ 0 ≤ rest ∧ 0 ≤ turn ∧ 0 ≤ more ∧ more < 2147483647, ?_, ?_⟩
      · rintro σ' H' ⟨rfl, fr', r', t', m', d', x1, x2, x3, x4⟩
        refine ⟨gs.length, by simp at hm; omega, rfl, fr', gs, r', t', m', rfl, d', by simp at g1; omega, fun g hg => g2 g (by simp [hg]), x1, x2, x3, x4⟩
      · refine ⟨q, _, _, d2.get_great hs, ?_⟩
        have d3 : Dr (upd (upd H1 a (.lst [])) q (.lst (gs.map V.int))) p q c gs cs rest turn more := d2.pop
        refine ⟨_, hs, p, _, rfl, DPut.k (k := Sum.inr "rest") d3.d (by rw [sizeLine_eq]; show 5 < 16777216; decide), rfl, fun b o e h1 h2 h3 => ?_, ?_⟩
        · rw [upd_ne h1, upd_ne h2]
          exact k2.fr b o e h1 h2 h3
        · rw [put_rest]
          exact ⟨g0, turn, more, d3.put, Int.le_of_lt (g2 g0 (by simp)), g4, g5, g6⟩
  · refine iteF' (by simp [hr]) ?_
    exact iteF (hu _ k1)
/-- _law_take, whole -/
theorem take_ok (hD : D.rt = Q) (k : DrK H0 p q c cs H) (hs : σ[0]? = some (some (V.ref p))) (h1 : σ[1]? = some (some (V.int many))) (hl : σ.length = 5) (h0 : 0 < many ∧ many.natAbs.log2 < 9000) (hQ : ∀ r H', 0 ≤ r → r < many → DrK H0 p q c cs H' → Q (.int r) H') : takeT D σ H :=
  while_ok k hs fun _ k1 => if_ok hD k1 hs h1 hl h0 hQ (tail_ok hD k1 hs h1 hl h0.1 hQ)
end
end Mi
namespace Mi
open PySem PySem.Spec PyProof.Rows L2
def sp_take0 (lim : Int) : FS := fun ss Q _ => ∃ m : Int, ss = [.own .draw, .val (.int m)] ∧ (0 < m ∧ m < lim) ∧ ∀ r, 0 ≤ r → r < m → Q (.val (.int r)) ss
theorem DrK.rep {T : Tx} {H G H' : Hp} {p q c : Addr} {cs : List Int} {m : Int} (R : Rep T [.own .draw, .val (.int m)] [some (V.ref p), some (V.int m)] G H) {gs0 : List Int} {r0 t0 m0 : Int} (d0 : Dr H p q c gs0 cs r0 t0 m0) (hcs : cs.length ≤ 63) (k : DrK H p q c cs H') :
    Rep T [.own .draw, .val (.int m)] [some (V.ref p), some (V.int m)] G H' ∧ Step (FpE [.own .draw, .val (.int m)] [some (V.ref p), some (V.int m)] H) (FpE [.own .draw, .val (.int m)] [some (V.ref p), some (V.int m)] H') G H G H' := by
  obtain ⟨gs, rest, turn, more, d, g1, g2, g3, g4, g5, g6⟩ := k.ex
  have fp0 : ∀ b, (b = p ∨ b = q ∨ b = c) → Fp H p .draw b := fun b h => by
    rcases h with h | h | h
    · exact .inl h
    · exact .inr ⟨_, Sum.inr "great", d0.d, by rw [h]; simp [drL]⟩
    · exact .inr ⟨_, Sum.inr "cells", d0.d, by rw [h]; simp [drL]⟩
  have fp1 : ∀ b, Fp H' p .draw b → b = p ∨ b = q ∨ b = c := fun b h => fp_draw d.d h
  have gn : ∀ b, (b = p ∨ b = q ∨ b = c) → G b = none := fun b h => R.sep 0 .draw p b rfl rfl (fp0 b h)
  have only : ∀ {i : Nat} {e : Cell}, ([.own .draw, .val (.int m)] : Env)[i]? = some (.own e) → i = 0 ∧ e = .draw := fun {i e} h => by
    match i, h with
    | 0, h => cases h; exact ⟨rfl, rfl⟩
    | 1, h => cases h
    | n + 2, h => simp at h
  refine ⟨⟨rfl, fun b o e => ?_, fun i dd e => ?_, fun i e h => ?_, fun i e a b h s f => ?_, fun i j e e' a a' b h1 h2 _ _ _ _ => ?_⟩, ⟨Same.refl _, fun b e n => absurd e n, fun b o e n => ?_, fun b hb => ?_⟩⟩
  · have hb : ¬ (b = p ∨ b = q ∨ b = c) := fun z => by rw [gn b z] at e; cases e
    simp only [not_or] at hb
    exact k.fr b o (R.sub b o e) hb.1 hb.2.1 hb.2.2
  · obtain ⟨v, h1, h2⟩ := R.val i dd e
    exact ⟨v, h1, h2⟩
  · obtain ⟨rfl, rfl⟩ := only h
    exact ⟨p, rfl, q, c, gs, cs, rest, turn, more, d.d, d.g, d.l, d.pq, d.pc, d.qc, g1, g2, hcs, g3, g4, g5, g6⟩
  · obtain ⟨rfl, rfl⟩ := only h
    cases s
    exact gn b (fp1 b f)
  · rw [(only h1).1, (only h2).1]
  · have : ¬ (b = p ∨ b = q ∨ b = c) := fun z => n ⟨0, .draw, p, rfl, rfl, fp0 b z⟩
    simp only [not_or] at this
    exact k.fr b o e this.1 this.2.1 this.2.2
  · obtain ⟨i, e, a, h1, h2, h3⟩ := hb
    obtain ⟨rfl, rfl⟩ := only h1
    cases h2
    exact .inl ⟨0, .draw, p, rfl, rfl, fp0 b (fp1 b h3)⟩
/-- _law_take keeps its promise -/
theorem take_keeps {T : Tx} {P : Program} {w : World} {K : PySem.W.Frag} {mg : Str → Option Value} {base : Heap} {x qual : Str} {params : Arguments} {body : List Stmt} {scope : Scope} {f : Addr} {fd : FuncData} {N : List Str} {k : Nat} {lim : Int}
    (F : FunD K x qual params body scope [] [] f fd) (hN : N.length = 5) (S : FnScope N ["_law_draw", "_law_many"] scope) (hlim : lim.natAbs.log2 < 8999)
    (hd : ∀ (cdv : Value) (A : Around) (outer : List PySem.Env) (s : Shared) (H : Hp) (E : XK), Room k (A.deeper (envOfC qual scope s.heap.objs.size f cdv)) → PSs (cxOf (L2.CX P w) P w K mg base N qual scope f cdv A outer s H E) body takeT) :
    FnOk P w K mg base (L2.CX P w) (k + 1) f fd ["_law_draw", "_law_many"] (spF T 2 (sp_take0 lim)) := by
  refine F.ok S (fun vs H Q E h => h.1) fun cdv A outer s H vs Q E hr hsp => ?_
  obtain ⟨hlen, ss, G, Qp, Ep, R, ⟨m, rfl, ⟨hm0, hm1⟩, hq0⟩, hq, he⟩ := hsp
  refine ⟨takeT, hd cdv A outer s H E hr, ?_⟩
  obtain ⟨p, e0, dr⟩ := R.own 0 .draw rfl
  obtain ⟨v, e1, e2⟩ := R.val 1 (.int m) rfl
  cases e2
  have evs : vs = [.ref p, .int m] := by
    match vs, hlen, e0, e1 with
    | [a, b], _, e0, e1 => simp at e0 e1; rw [e0, e1]
  subst evs
  obtain ⟨q, c, gs, cs, r0, t0, m0, hp, hq2, hc, npq, npc, nqc, l1, l2, l3, l4, l5, l6, l7⟩ := dr
  have d0 : Dr H p q c gs cs r0 t0 m0 := ⟨hp, hq2, hc, npq, npc, nqc⟩
  have k0 : DrK H p q c cs H := ⟨⟨gs, r0, t0, m0, d0, l1, l2, l4, l5, l6, l7⟩, fun b o e _ _ _ => e⟩
  have hst : L2.start N [.ref p, .int m] = [some (.ref p), some (.int m), none, none, none] := by
    unfold L2.start
    rw [hN]; rfl
  rw [hst]
  refine take_ok (many := m) rfl k0 rfl rfl rfl ⟨hm0, ?_⟩ fun r H' h0 h1 k1 => ?_
  · have h1 : m.natAbs < lim.natAbs := by omega
    have hl0 : lim.natAbs ≠ 0 := by omega
    have h3 : lim.natAbs < 2 ^ (lim.natAbs.log2 + 1) := Nat.lt_log2_self
    have h2 : m.natAbs < 2 ^ 9000 := Nat.lt_of_lt_of_le (Nat.lt_trans h1 h3) (Nat.pow_le_pow_right (by decide) (by omega))
    by_cases hz : m.natAbs = 0
    · omega
    · exact (Nat.log2_lt hz).mpr h2
  · obtain ⟨R1, S1⟩ := DrK.rep R d0 l3 k1
    exact hq (.val (.int r)) _ (hq0 r h0 h1) (fun i z => by cases z) rfl (.int r) G H' S1 ⟨R1, rfl⟩
end Mi
namespace Mi
open PySem PySem.Spec PyProof.Rows L2
/-! ### putting the text together -/
/-- a table by name and number of arguments -/
def tabN {α : Type} (l : List ((Str × Nat) × α)) (x : Str) (m : Nat) : Option α := (l.find? fun e => decide (e.1 = (x, m))).map (·.2)
def tab1 {α : Type} (l : List (Str × α)) (x : Str) : Option α := (l.find? fun e => decide (e.1 = x)).map (·.2)
theorem tabN_mem {α : Type} {l : List ((Str × Nat) × α)} {x : Str} {m : Nat} {r : α} (h : tabN l x m = some r) : ((x, m), r) ∈ l := by
  unfold tabN at h
  obtain ⟨e, he, rfl⟩ := Option.map_eq_some_iff.mp h
  have h1 := List.mem_of_find?_eq_some he
  have h2 := List.find?_some he
  simp only [decide_eq_true_eq] at h2
  rw [← h2]; exact h1
theorem tab1_mem {α : Type} {l : List (Str × α)} {x : Str} {r : α} (h : tab1 l x = some r) : (x, r) ∈ l := by
  unfold tab1 at h
  obtain ⟨e, he, rfl⟩ := Option.map_eq_some_iff.mp h
  have h1 := List.mem_of_find?_eq_some he
  have h2 := List.find?_some he
  simp only [decide_eq_true_eq] at h2
  rw [← h2]; exact h1
/-- a def that keeps its promise, level k, called with these defaults -/
def Kn (T : Tx) (Γ : Nat → FS) (P : Program) (w : World) (mg : Str → Option Value) (base : Heap) (k : Nat) (f : Addr) (fi : Nat) (dds : List D) : Prop :=
  ∃ (fd : FuncData) (ps : List Str) (dsv : List Value) (dvs : List V), FnOk P w T.K mg base (L2.CX P w) k f fd ps (spF T ps.length (Γ fi)) ∧ Binds T.K fd ps dsv ∧ Vals dvs dsv ∧ (∀ G, Dps T G dds dvs) ∧ Ar ps.length (Γ fi)
/-- .. called with keywords -/
def KnK (T : Tx) (Γ : Nat → FS) (P : Program) (w : World) (mg : Str → Option Value) (base : Heap) (k : Nat) (f : Addr) (n : Nat) (ks : List Str) (fi : Nat) : Prop :=
  ∃ (fd : FuncData) (ps : List Str), FnOk P w T.K mg base (L2.CX P w) k f fd ps (spF T ps.length (Γ fi)) ∧ KBn T.K fd ps n ks (· ++ ·) (· ++ ·) ∧ ps.length = n + ks.length ∧ Ar ps.length (Γ fi)
/-- the tables of a def -/
structure Tab where
  fn : List ((Str × Nat) × (Nat × List D))
  nw : List ((Str × Nat) × (Nat × Nat × List D))
  mt : List ((Str × Nat) × (Nat × Nat × List D))
  con : List (Str × D)
  cls : List (Str × Cls)
  na : Nat → List Str
  tks : List Str
  ob : List (Str × Nat)
  dn : List ((Nat × Dk) × Nat)
  kf : List ((Str × Nat × List Str) × Nat)
def tabD (l : List ((Nat × Dk) × Nat)) (c : Nat) (k : Dk) : Option Nat := (l.find? fun e => decide (e.1 = (c, k))).map (·.2)
theorem tabD_mem {l : List ((Nat × Dk) × Nat)} {c : Nat} {k : Dk} {r : Nat} (h : tabD l c k = some r) : ((c, k), r) ∈ l := by
  unfold tabD at h
  obtain ⟨e, he, rfl⟩ := Option.map_eq_some_iff.mp h
  have h1 := List.mem_of_find?_eq_some he
  have h2 := List.find?_some he
  simp only [decide_eq_true_eq] at h2
  rw [← h2]; exact h1
def tabK (l : List ((Str × Nat × List Str) × Nat)) (x : Str) (m : Nat) (ks : List Str) : Option Nat := (l.find? fun e => decide (e.1 = (x, m, ks))).map (·.2)
theorem tabK_mem {l : List ((Str × Nat × List Str) × Nat)} {x : Str} {m : Nat} {ks : List Str} {r : Nat} (h : tabK l x m ks = some r) : ((x, m, ks), r) ∈ l := by
  unfold tabK at h
  obtain ⟨e, he, rfl⟩ := Option.map_eq_some_iff.mp h
  have h1 := List.mem_of_find?_eq_some he
  have h2 := List.find?_some he
  simp only [decide_eq_true_eq] at h2
  rw [← h2]; exact h1
def Tab.cc (t : Tab) (N : List Str) (st : Stmt) (keep pas : List Nat) (slf : Option Nat) : Cc := ⟨N, fnSc st, fun _ => true, keep, t.tks, tabN t.fn, tabN t.nw, tabN t.mt, tab1 t.con, tab1 t.cls, slf, t.na, pas, t.ob, tabD t.dn, tabK t.kf, false⟩
/-- what the head told -/
structure Env0 (T : Tx) (mg : Str → Option Value) (t : Tab) : Prop where
  con : ∀ p ∈ t.con, ∃ v u, mg p.1 = some u ∧ RelV v u ∧ ∀ G, Dp T G p.2 v
  cls : ∀ p ∈ t.cls, ∃ cv u, IsiC T p.2 cv u ∧ RelV cv u ∧ (mg p.1 = some u ∨ (mg p.1 = none ∧ bootBuiltins p.1 = some u))
  blt : ∀ x ∈ bltNames, mg x = none
  na : ∀ c f, f ∈ t.na c → f ∈ T.na c
section
variable {T : Tx} {Γ : Nat → FS} {P : Program} {w : World} {mg : Str → Option Value} {base : Heap} {t : Tab}
theorem FnAt.of {X : Cx} {u : Value} {k k1 L : Nat} {f : Addr} {fi : Nat} {dds : List D} (hP : X.prog = P) (hw : X.w = w) (hK : X.K = T.K) (hmg : X.mg = mg) (hb : X.base = base) (h : Kn T Γ P w mg base k f fi dds) (hr : Room L X.A) (hl : k + k1 ≤ L) : FnAt T Γ X u k1 f fi dds := by
  subst hP hw hmg hb
  obtain ⟨fd, ps, dsv, dvs, F, b, v, d, a⟩ := h
  exact ⟨k, fd, ps, dsv, dvs, by rw [hK]; exact F, hr.mono hl, by rw [hK]; exact b, v, d, a⟩
/-- the context of a def's body -/
theorem base_mk {N ps : List Str} {qual : Str} {st : Stmt} {f : Addr} {cdv : Value} {A : Around} {outer : List PySem.Env} {s : Shared} {H : Hp} {E : XK} {L : Nat} {keep pas : List Nat} {slf : Option Nat} (e0 : Env0 T mg t)
    (hf : ∀ p ∈ t.fn, ∃ k g, k ≤ L ∧ mg p.1.1 = some (.ref g) ∧ PySem.W.keepIn T.K (.ref g) = true ∧ Kn T Γ P w mg base k g p.2.1 p.2.2)
    (hn : ∀ p ∈ t.nw, ∃ k g, k + 1 ≤ L ∧ Mk T.K (T.cl p.2.1) g ∧ ObOk T p.2.1 ∧ mg p.1.1 = some (.ref (T.cl p.2.1)) ∧ Kn T Γ P w mg base k g p.2.2.1 p.2.2.2)
    (hm : ∀ p ∈ t.mt, ∃ k g, k ≤ L ∧ L2.Cls T.K (T.cl p.2.1) ∧ Meth T.K (T.cl p.2.1) p.1.1 g ∧ Kn T Γ P w mg base k g p.2.2.1 p.2.2.2)
    (hd : ∀ p ∈ t.dn, ∃ k g, k + 1 ≤ L ∧ Meth T.K (T.cl p.1.1) (dkName p.1.2) g ∧ Kn T Γ P w mg base k g p.2 [] ∧ PySem.W.selfFirst T.K (T.cl p.1.1) = true ∧ ∀ t ∈ tyNames, PySem.W.notFirst T.K (T.cl p.1.1) (.type t) = true)
    (hkw : ∀ p ∈ t.kf, ∃ k g, k ≤ L ∧ mg p.1.1 = some (.ref g) ∧ PySem.W.keepIn T.K (.ref g) = true ∧ KnK T Γ P w mg base k g p.1.2.1 p.1.2.2 p.2)
    (hr : Room L (A.deeper (envOfC qual (fnSc st) s.heap.objs.size f cdv))) : Base T Γ (t.cc N st keep pas slf) (cxOf (L2.CX P w) P w T.K mg base N qual (fnSc st) f cdv A outer s H E) where
  K := rfl
  calm := rfl
  un := by have := hr.un; show (A.deeper (envOfC qual (fnSc st) s.heap.objs.size f cdv)).units + 65 < cLine; omega
  fn := fun x m fi dds e => by
    obtain ⟨k, g, h1, h2, h3, h4⟩ := hf _ (tabN_mem e)
    exact ⟨g, h2, h3, FnAt.of rfl rfl rfl rfl rfl h4 hr h1⟩
  nw := fun x m c fi dds e => by
    obtain ⟨k, g, h1, h2, h3, h4, h5⟩ := hn _ (tabN_mem e)
    exact ⟨g, h2, h3, h4, FnAt.of rfl rfl rfl rfl rfl h5 hr h1⟩
  mt := fun x m c fi dds e => by
    obtain ⟨k, g, h1, h2, h3, h4⟩ := hm _ (tabN_mem e)
    exact ⟨g, h2, h3, FnAt.of rfl rfl rfl rfl rfl h4 hr h1⟩
  con := fun x d e => e0.con _ (tab1_mem e)
  cls := fun x k e => e0.cls _ (tab1_mem e)
  blt := e0.blt
  na := e0.na
  dn := fun c k fi e => by
    obtain ⟨k, g, h1, h2, h3, h4⟩ := hd _ (tabD_mem e)
    exact ⟨g, h2, FnAt.of rfl rfl rfl rfl rfl h3 hr h1, h4⟩
  kf := fun x n ks fi e => by
    obtain ⟨k, g, h1, h2, h3, fd, ps, F, hb, hl, hA⟩ := hkw _ (tabK_mem e)
    exact ⟨g, h2, h3, ⟨k, fd, ps, F, hr.mono h1, hb, hl, hA⟩⟩
/-- a def that its body's IR keeps: level L + 1 -/
theorem kn_of {x qual : Str} {st : Stmt} {N ps : List Str} {f : Addr} {fd : FuncData} {L n fi : Nat} {keep pas : List Nat} {slf : Option Nat} {ir : List IS}
    (F : FunD T.K x qual (fnArgs st) (fnBd st) (fnSc st) [] [] f fd) (S : FnScope N ps (fnSc st)) (e0 : Env0 T mg t) (hir : cSs n (t.cc N st keep pas slf) (fnBd st) = ir)
    (hb : ∀ (kV doc pm : Value) (an : Option Addr) (cdv ct : Value) (us : List Value), us.length = ps.length → bindArgs (PySem.W.fnOf x qual (fnArgs st) (fnBd st) (fnSc st) .none kV doc pm an cdv ct) ⟨us, []⟩ = pure (ps.zip us))
    (hA : Ar ps.length (Γ fi))
    (hf : ∀ p ∈ t.fn, ∃ k g, k ≤ L ∧ mg p.1.1 = some (.ref g) ∧ PySem.W.keepIn T.K (.ref g) = true ∧ Kn T Γ P w mg base k g p.2.1 p.2.2)
    (hn : ∀ p ∈ t.nw, ∃ k g, k + 1 ≤ L ∧ Mk T.K (T.cl p.2.1) g ∧ ObOk T p.2.1 ∧ mg p.1.1 = some (.ref (T.cl p.2.1)) ∧ Kn T Γ P w mg base k g p.2.2.1 p.2.2.2)
    (hm : ∀ p ∈ t.mt, ∃ k g, k ≤ L ∧ L2.Cls T.K (T.cl p.2.1) ∧ Meth T.K (T.cl p.2.1) p.1.1 g ∧ Kn T Γ P w mg base k g p.2.2.1 p.2.2.2)
    (hd : ∀ p ∈ t.dn, ∃ k g, k + 1 ≤ L ∧ Meth T.K (T.cl p.1.1) (dkName p.1.2) g ∧ Kn T Γ P w mg base k g p.2 [] ∧ PySem.W.selfFirst T.K (T.cl p.1.1) = true ∧ ∀ t ∈ tyNames, PySem.W.notFirst T.K (T.cl p.1.1) (.type t) = true)
    (hkw : ∀ p ∈ t.kf, ∃ k g, k ≤ L ∧ mg p.1.1 = some (.ref g) ∧ PySem.W.keepIn T.K (.ref g) = true ∧ KnK T Γ P w mg base k g p.1.2.1 p.1.2.2 p.2)
    (hp : ∀ ss Q E, Γ fi ss Q E → runD Γ N.length ir ss Q E) : Kn T Γ P w mg base (L + 1) f fi [] := by
  refine ⟨fd, ps, [], [], ?_, F.bindsN hb, .nil, fun _ => rfl, hA⟩
  refine def_keeps (d := ⟨x, qual, st, N, ps, []⟩) (C := t.cc N st keep pas slf) (n := n) F S rfl rfl (fun cdv A outer s H E hr => base_mk (ps := ps) e0 hf hn hm hd hkw hr) fun ss Q E h => ?_
  rw [hir]
  exact hp ss Q E h
/-- the same of a def with defaults, called with all arguments -/
theorem kn_ofD {x qual : Str} {st : Stmt} {N ps : List Str} {f : Addr} {fd : FuncData} {L n fi : Nat} {keep pas : List Nat} {slf : Option Nat} {ir : List IS} {dvs : List V} {kws : List (Str × V)}
    (F : FunD T.K x qual (fnArgs st) (fnBd st) (fnSc st) dvs kws f fd) (S : FnScope N ps (fnSc st)) (e0 : Env0 T mg t) (hir : cSs n (t.cc N st keep pas slf) (fnBd st) = ir)
    (hf : ∀ p ∈ t.fn, ∃ k g, k ≤ L ∧ mg p.1.1 = some (.ref g) ∧ PySem.W.keepIn T.K (.ref g) = true ∧ Kn T Γ P w mg base k g p.2.1 p.2.2)
    (hn : ∀ p ∈ t.nw, ∃ k g, k + 1 ≤ L ∧ Mk T.K (T.cl p.2.1) g ∧ ObOk T p.2.1 ∧ mg p.1.1 = some (.ref (T.cl p.2.1)) ∧ Kn T Γ P w mg base k g p.2.2.1 p.2.2.2)
    (hm : ∀ p ∈ t.mt, ∃ k g, k ≤ L ∧ L2.Cls T.K (T.cl p.2.1) ∧ Meth T.K (T.cl p.2.1) p.1.1 g ∧ Kn T Γ P w mg base k g p.2.2.1 p.2.2.2)
    (hd : ∀ p ∈ t.dn, ∃ k g, k + 1 ≤ L ∧ Meth T.K (T.cl p.1.1) (dkName p.1.2) g ∧ Kn T Γ P w mg base k g p.2 [] ∧ PySem.W.selfFirst T.K (T.cl p.1.1) = true ∧ ∀ t ∈ tyNames, PySem.W.notFirst T.K (T.cl p.1.1) (.type t) = true)
    (hkw : ∀ p ∈ t.kf, ∃ k g, k ≤ L ∧ mg p.1.1 = some (.ref g) ∧ PySem.W.keepIn T.K (.ref g) = true ∧ KnK T Γ P w mg base k g p.1.2.1 p.1.2.2 p.2)
    (hp : ∀ ss Q E, Γ fi ss Q E → runD Γ N.length ir ss Q E) : FnOk P w T.K mg base (L2.CX P w) (L + 1) f fd ps (spF T ps.length (Γ fi)) := by
  refine def_keeps (d := ⟨x, qual, st, N, ps, dvs⟩) (C := t.cc N st keep pas slf) (n := n) F S rfl rfl (fun cdv A outer s H E hr => base_mk (ps := ps) e0 hf hn hm hd hkw hr) fun ss Q E h => ?_
  rw [hir]
  exact hp ss Q E h
/-- a call that writes all keywords, no positional default stands -/
theorem kb0 {K : PySem.W.Frag} {x qual : Str} {params : Arguments} {body : List Stmt} {scope : Scope} {kws : List (Str × V)} {f : Addr} {fd : FuncData} {ps : List Str} (F : FunD K x qual params body scope [] kws f fd) (n : Nat) (ks : List Str)
    (h : ∀ (kV doc pm : Value) (an : Option Addr) (cdv ct : Value) (us ws : List Value), us.length = n → ws.length = ks.length → bindArgs (PySem.W.fnOf x qual params body scope .none kV doc pm an cdv ct) ⟨us, ks.zip ws⟩ = pure (ps.zip (us ++ ws))) : KBn K fd ps n ks (· ++ ·) (· ++ ·) := by
  obtain ⟨oc, od, dV, kV, doc, pm, an, cdv, ct, osl, rfl, lk, hcd, hD, hK⟩ := F.ex
  rcases hD with ⟨_, rfl⟩ | ⟨e, _⟩
  · exact ⟨fun s us ws X l1 l2 => .of_eq (h kV doc pm an cdv ct us ws l1 l2), fun r1 r2 => r1.append r2⟩
  · exact absurd rfl e
/-- the law's own promise at the head -/
theorem law_sp {f : FS} {n : Nat} (hf : ∀ (xs : List Int) (Q : Res → List Slot → Prop) (E : Xc → List Slot → Prop), xs.length ≤ n → Q (.val (.bl true)) [.val (.lst (xs.map D.int))] → f [.val (.lst (xs.map D.int))] Q E) (H : Hp) (a : Addr) (ns : List Int) (hl : ns.length ≤ n) (hS : SqL T.K H a (ns.map V.int)) (hO : Only H) :
    spF T 1 f [.ref a] H (fun v _ => v = .bl true) fun _ _ _ => False := by
  refine ⟨rfl, [.val (.lst (ns.map D.int))], H, fun r _ => r = .val (.bl true), fun _ _ => False, ?_, hf ns _ _ hl rfl, fun r ss' q hr hl v G' H' S R => ?_, fun _ _ z => z.elim⟩
  · have only : ∀ {i : Nat} {e : Cell}, ([.val (.lst (ns.map D.int))] : Env)[i]? = some (.own e) → False := fun {i e} h => by
      match i, h with
      | 0, h => cases h
      | n + 1, h => simp at h
    refine ⟨rfl, Same.refl _, fun i d e => ?_, fun i e h => (only h).elim, fun i e a b h => (only h).elim, fun i j e e' a a' b h => (only h).elim⟩
    match i, e with
    | 0, e =>
      cases e
      exact ⟨_, rfl, a, ns.map V.int, rfl, hS, ints_dps ns⟩
    | n + 1, e => simp at e
  · subst q
    exact R.2
end
end Mi
namespace Mi
open PySem PySem.Spec PyProof.Rows L2
/-! ### the head: what is looked at behind the top -/
abbrev AlM : Type := He.AlD × Bool
def frM (n : Nat) (g : Addr → Option Obj) : PySem.W.Frag := He.frG g (He.asD g n)
def obsM (n : Nat) (fa : List He.Fa) (fn : List He.DefD) (ex : PySem.W.Frag → Bool) (g : Addr → Option Obj) : AlM := (He.obsD fa fn (frM n g), ex (frM n g))
structure SaysM (fa : List He.Fa) (fn : List He.DefD) (ex : PySem.W.Frag → Bool) (K : PySem.W.Frag) : Prop where
  d : He.SaysD fa fn K
  ex : ex K = true
def hookM (n : Nat) (fa : List He.Fa) (fn : List He.DefD) (ex : PySem.W.Frag → Bool) : PySem.W.Hook where
  α := AlM
  obs := fun s => obsM n fa fn ex s.heap.get?
  val := fun _ => (He.valD fn, true)
  says := fun _ h => ∃ K : PySem.W.Frag, K.In h ∧ SaysM fa fn ex K
  of := fun _ _ e => ⟨_, He.frG_in, ⟨congrArg (fun z : AlM => z.1) e, congrArg (fun z : AlM => z.2) e⟩⟩
  keeps := fun _ _ _ ⟨K, hK, c⟩ k => ⟨K, PySem.W.Frag.In.keeps hK k, c⟩
theorem obsM_eq {n : Nat} {fa : List He.Fa} {fn : List He.DefD} {ex : PySem.W.Frag → Bool} {g : Addr → Option Obj} {s : Shared} (h : ∀ a, g a = s.heap.get? a) : obsM n fa fn ex g = (hookM n fa fn ex).obs s := by
  have e : g = s.heap.get? := funext h
  rw [e]; rfl
/-! ### isinstance, by looks -/
def tyN : List String := ["NoneType", "int", "bool", "str", "tuple", "list", "dict"]
def kitB (K : PySem.W.Frag) (t u : Value) (b : Bool) : Bool := decide (PySem.W.kitOne K t u = some b)
/-- the looks for one class -/
def isiX (K : PySem.W.Frag) (cs : List (Nat × Str)) (c : Cls) (u : Value) : Bool :=
  kitB K (.type "NoneType") u (isiB c .non) && (kitB K (.type "int") u (isiB c (.int 0)) && (kitB K (.type "bool") u (isiB c (.bl true)) && (kitB K (.type "str") u (isiB c (.str Str.empty)) &&
  (kitB K (.type "tuple") u (isiB c (.tup [])) && (kitB K (.type "list") u (isiB c (.lst [])) && (kitB K (.type "dict") u (isiB c (.dK [])) && cs.all fun p => kitB K (.ref (He.ga K p.2)) u (isiB c (.obj p.1 []))))))))
theorem isiX_ok {T : Tx} {cs : List (Nat × Str)} {c : Cls} {cv : V} {u : Value} (hcv : ClsV cv u) (hcs : ∀ k ∈ T.cs, ∃ x, (k, x) ∈ cs ∧ T.cl k = He.ga T.K x) (h : isiX T.K cs c u = true) : IsiC T c cv u := by
  unfold isiX kitB at h
  simp only [Bool.and_eq_true, decide_eq_true_eq, List.all_eq_true] at h
  obtain ⟨h1, h2, h3, h4, h5, h6, h7, h8⟩ := h
  refine ⟨hcv, h1, h2, h3, h4, h5, h6, h7, fun k hk => ?_⟩
  obtain ⟨x, hm, e⟩ := hcs k hk
  rw [e]
  exact h8 (k, x) hm
/-- the looks for one own class -/
def objX (K : PySem.W.Frag) (x : Str) : Bool := decide (PySem.W.findIn K (.ref (He.ga K x)) "__class__" = some (some (.builtin "object.__class__"))) && (decide (PySem.W.specialIn K (.builtin "object.__class__") "__get__" = some (some (.builtin "getset_descriptor.__get__"))) && (decide (PySem.W.takesIn K (.builtin "object.__class__") = some true) && decide (PySem.W.mroIn K (He.ga K x) (.type "object") = some true)))
theorem objX_ok {T : Tx} {c : Nat} {x : Str} (e : T.cl c = He.ga T.K x) (hm : c ∈ T.cs) (hc : L2.Cls T.K (He.ga T.K x)) (hn : ∀ f ∈ T.na c, NoAttr T.K (He.ga T.K x) f) (h : objX T.K x = true) : ObOk T c := by
  unfold objX at h
  simp only [Bool.and_eq_true, decide_eq_true_eq] at h
  obtain ⟨h1, h2, h3, h4⟩ := h
  exact ⟨by rw [e]; exact hc, by rw [e]; exact hn, hm, by rw [e]; exact h1, h2, h3, by rw [e]; exact h4⟩
/-- the looks for operators of an own class -/
def dnX (K : PySem.W.Frag) (x : Str) : Bool := PySem.W.selfFirst K (He.ga K x) && tyNames.all fun t => PySem.W.notFirst K (He.ga K x) (.type t)
theorem dnX_ok {K : PySem.W.Frag} {x : Str} (h : dnX K x = true) : PySem.W.selfFirst K (He.ga K x) = true ∧ ∀ t ∈ tyNames, PySem.W.notFirst K (He.ga K x) (.type t) = true := by
  unfold dnX at h
  simp only [Bool.and_eq_true, List.all_eq_true] at h
  exact h
/-- a keyword's default, if it is an object -/
def kwdAt (f : Str × Option Str) (x : Str) (K : PySem.W.Frag) : Addr := match K.lookup (He.fAd K f) with
  | some ⟨_, _, .func fd, _⟩ => (match fd.kwdefaults with
    | .ref D => (match PySem.W.nsIn K D x with
      | some (some (.ref a)) => a
      | _ => 0)
    | _ => 0)
  | _ => 0
/-- () -/
def etuX (K : PySem.W.Frag) (a : Addr) : Bool := match K.lookup a with
  | some ⟨.type c, _, .seq its _, _⟩ => c == "tuple" && its.size == 0
  | _ => false
theorem etuX_ok {T : Tx} {a : Addr} (h : etuX T.K a = true) (G : Hp) : Dp T G (.tup []) (.ref a) := by
  unfold etuX at h
  split at h
  · rename_i c dd its n sl e
    simp only [Bool.and_eq_true, beq_iff_eq] at h
    obtain ⟨rfl, h2⟩ := h
    refine ⟨a, [], rfl, .inr ⟨rfl, .inr ⟨_, its, n, e, rfl, rfl, by rw [h2]; exact Nat.zero_le _, ?_⟩⟩, rfl⟩
    have : its.toList = [] := by
      cases its with
      | mk l =>
        cases l with
        | nil => rfl
        | cons _ _ => simp at h2
    rw [this]
    exact .nil
  · cases h
/-- the law's walk; what it may raise hangs on the world -/
theorem walk_ofW {l : PySem.W.OpenLaw} {n k : Nat} {q : Program} {loose : List Str} {XP : (Str → Option Value) → Heap → Prop} {YP : World → Heap → Prop} {d : DefRec} {x : Str} (hn : l.most = some n) (hn2 : n ≤ sizeLine) (hdf : d.params.defaults = []) (hr : Room k callerA)
    (F : ∀ (w : World) (mg : Str → Option Value) (fa : Addr) (h : Heap), YP w h → h.Ns mainGlobals mg → mg d.name = some (.ref fa) → ∃ (K : PySem.W.Frag) (fd : FuncData) (sp : Sp), K.In h ∧ (∀ (s : Shared) (u : Value), BindsTo s fd ⟨[u], []⟩ [(x, u)]) ∧
      (∀ (H : Hp) (a : Addr) (ns : List Int), ns.length ≤ n → Only H → SqL K H a (ns.map V.int) → sp [.ref a] H (fun v _ => v = .bl true) fun _ _ _ => False) ∧ ∀ base : Heap, K.In base → base.Ns mainGlobals mg → FnOk l.prog w K mg base (L2.CX l.prog w) k fa fd [x] sp) :
    PySem.W.WalkO q loose XP YP l.row.toRowW d [] (fun f vs => PySem.call f vs) := by
  refine Att.attach_call hn hdf fun w _ s mg _ fa _ _ _ _ a vs ns g y _ _ _ m o i hl e => ?_
  obtain ⟨K, fd, sp, k1, k2, k3, k4⟩ := F w mg fa _ y g.T.g m
  refine law_call k1 g.T.g g.T.b g.T.builtins g.T.nolimit e o i (Nat.le_trans hl hn2) hr k4 k2 (fun H z1 z2 => k3 H a ns hl z1 z2) fun H u s' z => ?_
  obtain ⟨_, _, _, _, _, _, _, _, _, _, _, _, z⟩ := z
  exact z
end Mi
namespace Mi
open PySem
/-! ### association lists -/
section
variable {α β γ : Type} [DecidableEq α]
theorem valG_nil (k : α) : valG ([] : List (α × β)) k = none := rfl
theorem valG_cons (p : α × β) (kvs : List (α × β)) (k : α) : valG (p :: kvs) k = if p.1 = k then some p.2 else valG kvs k := by
  unfold valG
  by_cases h : p.1 = k <;> simp [List.find?_cons, h]
theorem valG_none {kvs : List (α × β)} {k : α} : valG kvs k = none ↔ k ∉ kvs.map (·.1) := by
  induction kvs with
  | nil => simp [valG_nil]
  | cons p kvs ih =>
    rw [valG_cons]
    by_cases h : p.1 = k
    · simp [h]
    · simp only [h, if_false, ih, List.map_cons, List.mem_cons, not_or]
      exact ⟨fun q => ⟨fun e => h e.symm, q⟩, fun q => q.2⟩
theorem valG_some_mem {kvs : List (α × β)} {k : α} {v : β} (h : valG kvs k = some v) : (k, v) ∈ kvs := by
  induction kvs with
  | nil => cases h
  | cons p kvs ih =>
    rw [valG_cons] at h
    by_cases e : p.1 = k
    · rw [if_pos e] at h; cases h; subst e; simp
    · rw [if_neg e] at h; exact List.mem_cons_of_mem _ (ih h)
theorem valG_of_mem {kvs : List (α × β)} {k : α} {v : β} (nd : (kvs.map (·.1)).Nodup) (h : (k, v) ∈ kvs) : valG kvs k = some v := by
  induction kvs with
  | nil => cases h
  | cons p kvs ih =>
    rw [List.map_cons, List.nodup_cons] at nd
    rw [valG_cons]
    rcases List.mem_cons.mp h with e | e
    · subst e; simp
    · have : p.1 ≠ k := fun z => nd.1 (by rw [z]; exact List.mem_map.mpr ⟨_, e, rfl⟩)
      rw [if_neg this]; exact ih nd.2 e
theorem valG_isSome {kvs : List (α × β)} {k : α} : (valG kvs k).isSome = true ↔ k ∈ kvs.map (·.1) := by
  cases h : valG kvs k with
  | none => simp only [Option.isSome_none, Bool.false_eq_true, false_iff]; exact valG_none.mp h
  | some v => simp only [Option.isSome_some, true_iff]; exact List.mem_map.mpr ⟨_, valG_some_mem h, rfl⟩
theorem putG_any {kvs : List (α × β)} {k : α} : (kvs.any fun kv => decide (kv.1 = k)) = true ↔ k ∈ kvs.map (·.1) := by
  simp only [List.any_eq_true, decide_eq_true_eq, List.mem_map]
theorem putG_new {kvs : List (α × β)} {k : α} {v : β} (h : k ∉ kvs.map (·.1)) : putG kvs k v = kvs ++ [(k, v)] := by
  unfold putG; rw [if_neg (fun e => h (putG_any.mp e))]
theorem putG_keys {kvs : List (α × β)} {k : α} {v : β} : (putG kvs k v).map (·.1) = if k ∈ kvs.map (·.1) then kvs.map (·.1) else kvs.map (·.1) ++ [k] := by
  by_cases h : k ∈ kvs.map (·.1)
  · unfold putG
    rw [if_pos (putG_any.mpr h), if_pos h, List.map_map]
    apply List.map_congr_left
    intro p _
    simp only [Function.comp]
    by_cases e : p.1 = k <;> simp [e]
  · rw [putG_new h, if_neg h]; simp
theorem putG_nodup {kvs : List (α × β)} {k : α} {v : β} (h : (kvs.map (·.1)).Nodup) : ((putG kvs k v).map (·.1)).Nodup := by
  rw [putG_keys]
  split
  · exact h
  · rename_i n
    rw [List.nodup_append]
    exact ⟨h, by simp, fun a ha b hb => by simp at hb; subst hb; intro e; subst e; exact n ha⟩
theorem valG_append {xs ys : List (α × β)} {k : α} : valG (xs ++ ys) k = match valG xs k with | some v => some v | none => valG ys k := by
  induction xs with
  | nil => simp [valG_nil]
  | cons p xs ih =>
    rw [List.cons_append, valG_cons, valG_cons, ih]
    by_cases h : p.1 = k <;> simp [h]
theorem valG_mapv {f : α → β → γ} {kvs : List (α × β)} {k : α} : valG (kvs.map fun p => (p.1, f p.1 p.2)) k = (valG kvs k).map (f k) := by
  induction kvs with
  | nil => rfl
  | cons p kvs ih =>
    rw [List.map_cons, valG_cons, valG_cons, ih]
    by_cases h : p.1 = k
    · subst h; simp
    · simp [h]
theorem valG_putG {kvs : List (α × β)} {k k2 : α} {v : β} : valG (putG kvs k v) k2 = if k2 = k then some v else valG kvs k2 := by
  unfold putG
  split
  · rename_i h
    have hk := putG_any.mp h
    have e : (kvs.map fun kv => if kv.1 = k then (kv.1, v) else kv) = kvs.map fun p => (p.1, if p.1 = k then v else p.2) := by
      apply List.map_congr_left; intro p _; by_cases q : p.1 = k <;> simp [q]
    rw [e]
    have := valG_mapv (f := fun a b => if a = k then v else b) (kvs := kvs) (k := k2)
    rw [this]
    by_cases q : k2 = k
    · subst q
      obtain ⟨w, hw⟩ := Option.isSome_iff_exists.mp (valG_isSome.mpr hk)
      simp [hw]
    · simp [q]
  · rename_i h
    have hk : k ∉ kvs.map (·.1) := fun z => h (putG_any.mpr z)
    rw [valG_append, valG_cons, valG_nil]
    by_cases q : k2 = k
    · subst q; simp [valG_none.mpr hk]
    · simp only [if_neg q, if_neg (fun e => q (Eq.symm e) : ¬ k = k2)]
      cases valG kvs k2 <;> rfl
theorem putG_len {kvs : List (α × β)} {k : α} {v : β} : (putG kvs k v).length ≤ kvs.length + 1 := by
  unfold putG; split <;> simp
/-- a fold of stores -/
def putAll (kvs : List (α × β)) (ps : List (α × β)) : List (α × β) := ps.foldl (fun a p => putG a p.1 p.2) kvs
theorem putAll_nodup {ps : List (α × β)} : ∀ {kvs : List (α × β)}, (kvs.map (·.1)).Nodup → ((putAll kvs ps).map (·.1)).Nodup := by
  induction ps with
  | nil => intro kvs h; exact h
  | cons p ps ih => intro kvs h; exact ih (putG_nodup h)
theorem putAll_new {ps : List (α × β)} : ∀ {kvs : List (α × β)}, (ps.map (·.1)).Nodup → (∀ k ∈ ps.map (·.1), k ∉ kvs.map (·.1)) → putAll kvs ps = kvs ++ ps := by
  induction ps with
  | nil => intro kvs _ _; simp [putAll]
  | cons p ps ih =>
    intro kvs nd h
    rw [List.map_cons, List.nodup_cons] at nd
    show putAll (putG kvs p.1 p.2) ps = _
    have hp := h p.1 (by simp)
    rw [ih nd.2, putG_new hp]
    · simp
    · intro k hk
      rw [putG_new hp]
      simp only [List.map_append, List.map_cons, List.map_nil, List.mem_append, List.mem_singleton, not_or]
      exact ⟨h k (by simp only [List.map_cons, List.mem_cons]; exact .inr hk), fun e => nd.1 (by rw [← e]; exact hk)⟩
theorem putAll_nil {ps : List (α × β)} (nd : (ps.map (·.1)).Nodup) : putAll [] ps = ps := by
  rw [putAll_new nd (by simp)]; rfl
theorem valG_putAll {ps : List (α × β)} {k : α} : ∀ {kvs : List (α × β)}, valG (putAll kvs ps) k = match valG ps.reverse k with | some v => some v | none => valG kvs k := by
  induction ps with
  | nil => intro kvs; rfl
  | cons p ps ih =>
    intro kvs
    show valG (putAll (putG kvs p.1 p.2) ps) k = _
    rw [ih, List.reverse_cons, valG_append, valG_putG, valG_cons, valG_nil]
    cases valG ps.reverse k with
    | some v => rfl
    | none =>
      by_cases e : p.1 = k
      · subst e; simp
      · simp only [if_neg e, if_neg (fun z => e (Eq.symm z) : ¬ k = p.1)]
theorem putAll_len {ps : List (α × β)} : ∀ {kvs : List (α × β)}, (putAll kvs ps).length ≤ kvs.length + ps.length := by
  induction ps with
  | nil => intro kvs; simp [putAll]
  | cons p ps ih =>
    intro kvs
    have := ih (kvs := putG kvs p.1 p.2)
    have h2 := putG_len (kvs := kvs) (k := p.1) (v := p.2)
    show (putAll (putG kvs p.1 p.2) ps).length ≤ _
    simp only [List.length_cons]; omega
end
/-! ### the start and the end of a def -/
theorem startE_cons {n : Nat} {s : Slot} {ss : List Slot} : startE (n + 1) (s :: ss) = s :: startE n ss := by simp [startE]
theorem startE_nil {n : Nat} : startE (n + 1) [] = .non :: startE n [] := by simp [startE, List.replicate_succ]
theorem startE_zero : startE 0 [] = [] := rfl
theorem cons_run {Γ : Nat → FS} {s : IS} {r : List IS} {ρ : Env} {K : Ks} (h : wpS Γ s ρ { K with nx := fun ρ1 => wpSs Γ r ρ1 K }) : wpSs Γ (s :: r) ρ K := by rw [wpSs]; exact h
theorem nil_run {Γ : Nat → FS} {ρ : Env} {K : Ks} (h : K.nx ρ) : wpSs Γ [] ρ K := by rw [wpSs]; exact h
theorem asgN_run {Γ : Nat → FS} {i : Nat} {e : IE} {ρ : Env} {K : Ks} (h : wp Γ e ρ (fun r ρ1 => slotW r ρ1 fun s ρ2 => i < ρ2.length ∧ K.nx (ρ2.set i s)) K.ex) : wpS Γ (.asg (.name i) e) ρ K := by rw [wpS]; exact h
theorem retN_run {Γ : Nat → FS} {e : IE} {ρ : Env} {K : Ks} (h : wp Γ e ρ (fun r ρ1 => retW r ρ1 K.rt) K.ex) : wpS Γ (.ret e) ρ K := by rw [wpS]; exact h
theorem asgT_run {Γ : Nat → FS} {ts : List Tg} {e : IE} {ρ : Env} {K : Ks} (h : wp Γ e ρ (fun r ρ1 => frzR r ρ1 fun x ρ2 => match bindT (.tup ts) (rdR ρ2 x) ρ2 with
    | some ρ3 => K.nx ρ3
    | none => False) K.ex) : wpS Γ (.asg (.tup ts) e) ρ K := by
  rw [wpS]
  · exact h
  · intro i z; cases z
/-- a def's run, what follows hidden -/
theorem run_of {Γ : Nat → FS} {n : Nat} {body : List IS} {ss : List Slot} {Q : Res → List Slot → Prop} {E : Xc → List Slot → Prop} (l : List Nat) (hl : asgSs body = l) (h1 : ioOk 0 l ss = true) (h2 : ss.length ≤ n)
    (h : ∀ K : Ks, (∀ r ρ ss', outE l ss.length ρ = ss' → Q r ss' → K.rt r ρ) → (∀ ρ ss', outE l ss.length ρ = ss' → Q (.val .non) ss' → K.nx ρ) → (∀ x ρ ss', outE l ss.length ρ = ss' → E x ss' → K.ex x ρ) → wpSs Γ body (startE n ss) K) : runD Γ n body ss Q E := by
  subst hl
  exact ⟨⟨h1, h2⟩, h _ (fun _ _ _ e h => by rw [← e] at h; exact h) (fun _ _ e h => by rw [← e] at h; exact h) (fun _ _ _ e h => by rw [← e] at h; exact h)⟩
/-! ### turns -/
section
variable {α : Type} {g : Option Nat} {all : List D} {ρ : Env}
theorem turns_opt {f : D → Env → (Option D → Env → Prop) → Prop} (inj : α → D) (h : α → Option D) (hg : Guard g all ρ) : ∀ (ys : List α), (∀ y ∈ ys, ∀ K, K (h y) ρ → f (inj y) ρ K) → ∀ (acc : List D) (Q : List D → Env → Prop), Q (acc ++ ys.filterMap h) ρ → turns g all f (ys.map inj) ρ acc Q
  | [], _, acc, Q, q => by simpa [turns] using q
  | y :: ys, hb, acc, Q, q => by
    rw [List.map_cons]
    unfold turns
    refine hb y (by simp) _ ⟨hg, turns_opt inj h hg ys (fun z hz => hb z (by simp [hz])) _ Q ?_⟩
    cases e : h y with
    | none => simpa [List.filterMap_cons, e] using q
    | some d => simpa [List.filterMap_cons, e] using q
theorem turns_map {f : D → Env → (Option D → Env → Prop) → Prop} (inj : α → D) (h : α → D) {ys : List α} {acc : List D} {Q : List D → Env → Prop} (hg : Guard g all ρ) (hb : ∀ y ∈ ys, ∀ K : Option D → Env → Prop, K (some (h y)) ρ → f (inj y) ρ K) (q : Q (acc ++ ys.map h) ρ) : turns g all f (ys.map inj) ρ acc Q :=
  turns_opt inj (fun y => some (h y)) hg ys hb acc Q (by have e : ys.filterMap (fun y => some (h y)) = ys.map h := by { induction ys with | nil => rfl | cons a l ih => simp } ; rw [e]; exact q)
theorem turns_filter {f : D → Env → (Option D → Env → Prop) → Prop} (inj : α → D) (p : α → Bool) (h : α → D) {ys : List α} {acc : List D} {Q : List D → Env → Prop} (hg : Guard g all ρ) (hb : ∀ y ∈ ys, ∀ K : Option D → Env → Prop, K (if p y = true then some (h y) else none) ρ → f (inj y) ρ K) (q : Q (acc ++ (ys.filter p).map h) ρ) : turns g all f (ys.map inj) ρ acc Q := by
  refine turns_opt inj (fun y => if p y = true then some (h y) else none) hg ys hb acc Q ?_
  have e : ∀ ys : List α, ys.filterMap (fun y => if p y = true then some (h y) else none) = (ys.filter p).map h := fun ys => by
    induction ys with
    | nil => rfl
    | cons y ys ih => by_cases e : p y = true <;> simp [List.filterMap_cons, List.filter_cons, e, ih]
  rw [e]; exact q
/-- turns that draw: an invariant of what came -/
theorem turns_inv {f : D → Env → (Option D → Env → Prop) → Prop} (inj : α → D) (P : List D → Prop) (hg : Guard g all ρ) : ∀ (ys : List α), (∀ y ∈ ys, ∀ acc (K : Option D → Env → Prop), P acc → (∀ d, P (acc ++ [d]) → K (some d) ρ) → f (inj y) ρ K) → ∀ (acc : List D) (Q : List D → Env → Prop), P acc → (∀ acc2, acc2.length = acc.length + ys.length → P acc2 → Q acc2 ρ) → turns g all f (ys.map inj) ρ acc Q
  | [], _, acc, Q, hp, q => by simp only [List.map_nil, turns]; exact q acc (by simp) hp
  | y :: ys, hb, acc, Q, hp, q => by
    rw [List.map_cons]
    unfold turns
    refine hb y (by simp) acc _ hp fun d hd => ⟨hg, turns_inv inj P hg ys (fun z hz => hb z (by simp [hz])) _ Q hd fun acc2 hl => q acc2 (by simp at hl ⊢; omega)⟩
theorem turnsC_of {f : D → BD} (inj : α → D) (u : α → Cell → Cell) (I : Nat → Cell → Prop) (hg : Guard g all ρ) : ∀ (ys : List α) (n : Nat), (∀ y ∈ ys, ∀ n c (K : Cell → Env → Prop), I n c → (I (n + 1) (u y c) → K (u y c) ρ) → f (inj y) ρ c K) → (∀ y ∈ ys, ∀ n c, I n c → I (n + 1) (u y c)) → ∀ (c : Cell) (Q : Cell → Env → Prop), I n c → Q (ys.foldl (fun c y => u y c) c) ρ → turnsC g all f (ys.map inj) ρ c Q
  | [], n, _, _, c, Q, _, q => by simpa [turnsC] using q
  | y :: ys, n, hb, hi, c, Q, ic, q => by
    rw [List.map_cons]
    unfold turnsC
    refine hb y (by simp) n c _ ic fun i1 => ⟨hg, turnsC_of inj u I hg ys (n + 1) (fun z hz => hb z (by simp [hz])) (fun z hz => hi z (by simp [hz])) _ Q i1 ?_⟩
    simpa using q
/-- a dict comprehension, by stores -/
theorem turnsC_dK {f : D → BD} (inj : α → D) (p : α → Bool) (k : α → Ky) (v : α → D) {ys : List α} {Q : Cell → Env → Prop} (hl : ys.length ≤ big) (hg : Guard g all ρ) (hb : ∀ y ∈ ys, ∀ kvs (K : Cell → Env → Prop), kvs.length < big → K (.dK (if p y = true then putG kvs (k y) (v y) else kvs)) ρ → f (inj y) ρ (.dK kvs) K)
    (q : Q (.dK (putAll [] ((ys.filter p).map fun y => (k y, v y)))) ρ) : turnsC g all f (ys.map inj) ρ (.dK []) Q := by
  have main : ∀ (zs : List α) (kvs : List (Ky × D)), (∀ z ∈ zs, z ∈ ys) → kvs.length + zs.length ≤ big → Q (.dK (putAll kvs ((zs.filter p).map fun y => (k y, v y)))) ρ → turnsC g all f (zs.map inj) ρ (.dK kvs) Q := by
    intro zs
    induction zs with
    | nil => intro kvs _ _ q; simpa [turnsC, putAll] using q
    | cons z zs ih =>
      intro kvs hm hn q
      rw [List.map_cons]
      unfold turnsC
      simp only [List.length_cons] at hn
      refine hb z (hm z (by simp)) kvs _ (by omega) ⟨hg, ih _ (fun w hw => hm w (by simp [hw])) ?_ ?_⟩
      · split
        · have := putG_len (kvs := kvs) (k := k z) (v := v z); omega
        · omega
      · by_cases e : p z = true
        · rw [List.filter_cons, if_pos e] at q; rw [if_pos e]; exact q
        · rw [List.filter_cons, if_neg e] at q; rw [if_neg e]; exact q
  exact main ys [] (fun _ h => h) (by simpa using hl) q
theorem turnsC_dT {f : D → BD} (inj : α → D) (p : α → Bool) (k : α → List Ky) (v : α → D) {ys : List α} {kvs0 : List (List Ky × D)} {Q : Cell → Env → Prop} (hl : kvs0.length + ys.length ≤ big) (hg : Guard g all ρ) (hb : ∀ y ∈ ys, ∀ kvs (K : Cell → Env → Prop), kvs.length < big → K (.dT (if p y = true then putG kvs (k y) (v y) else kvs)) ρ → f (inj y) ρ (.dT kvs) K)
    (q : Q (.dT (putAll kvs0 ((ys.filter p).map fun y => (k y, v y)))) ρ) : turnsC g all f (ys.map inj) ρ (.dT kvs0) Q := by
  have main : ∀ (zs : List α) (kvs : List (List Ky × D)), (∀ z ∈ zs, z ∈ ys) → kvs.length + zs.length ≤ big → Q (.dT (putAll kvs ((zs.filter p).map fun y => (k y, v y)))) ρ → turnsC g all f (zs.map inj) ρ (.dT kvs) Q := by
    intro zs
    induction zs with
    | nil => intro kvs _ _ q; simpa [turnsC, putAll] using q
    | cons z zs ih =>
      intro kvs hm hn q
      rw [List.map_cons]
      unfold turnsC
      simp only [List.length_cons] at hn
      refine hb z (hm z (by simp)) kvs _ (by omega) ⟨hg, ih _ (fun w hw => hm w (by simp [hw])) ?_ ?_⟩
      · split
        · have := putG_len (kvs := kvs) (k := k z) (v := v z); omega
        · omega
      · by_cases e : p z = true
        · rw [List.filter_cons, if_pos e] at q; rw [if_pos e]; exact q
        · rw [List.filter_cons, if_neg e] at q; rw [if_neg e]; exact q
  exact main ys kvs0 (fun _ h => h) hl q
/-- items by place -/
def goI (itm : Nat → α → D) : Nat → List α → List D
  | _, [] => []
  | n, y :: ys => itm n y :: goI itm (n + 1) ys
theorem goI_map (inj : α → D) : ∀ (n : Nat) (ys : List α), ys.map inj = goI (fun _ => inj) n ys
  | _, [] => rfl
  | n, y :: ys => by rw [List.map_cons, goI, goI_map inj (n + 1) ys]
theorem goI_enum (inj : α → D) : ∀ (n : Nat) (ys : List α), enumG n (ys.map inj) = goI (fun n y => .tup [.int n, inj y]) n ys
  | _, [] => rfl
  | n, y :: ys => by rw [List.map_cons, enumG, goI, goI_enum inj (n + 1) ys]
/-- a walk, by an invariant; break may leave it -/
theorem forL_inv {bd : D → Env → Option Env} {body : Env → Ks → Prop} {K : Ks} (itm : Nat → α → D) (I : List α → Env → Prop) (hg : ∀ pre ρ, I pre ρ → Guard g all ρ) : ∀ (ys pre : List α) (ρ : Env), I pre ρ →
    (∀ p y q ρ, pre ++ ys = p ++ y :: q → I p ρ → ∃ ρ1, bd (itm p.length y) ρ = some ρ1 ∧ ∀ K1 : Ks, K1.rt = K.rt → K1.ex = K.ex → K1.bk = K.nx → K1.ct = K1.nx → (∀ ρ2, I (p ++ [y]) ρ2 → K1.nx ρ2) → body ρ1 K1) → (∀ ρ2, I (pre ++ ys) ρ2 → K.nx ρ2) → forL g all bd body K (goI itm pre.length ys) ρ
  | [], pre, ρ, hi, _, q => by simp only [goI, forL]; exact q ρ (by simpa using hi)
  | y :: ys, pre, ρ, hi, hb, q => by
    unfold goI forL
    obtain ⟨ρ1, e, h⟩ := hb pre y ys ρ rfl hi
    rw [e]
    refine h _ rfl rfl rfl rfl fun ρ2 i2 => ⟨hg _ _ i2, ?_⟩
    have := forL_inv (K := K) itm I hg ys (pre ++ [y]) ρ2 i2 (fun p z w ρ e i => hb p z w ρ (by simpa using e) i) fun ρ3 i3 => q ρ3 (by simpa using i3)
    simpa using this
theorem forL_map {bd : D → Env → Option Env} {body : Env → Ks → Prop} {K : Ks} (inj : α → D) (ys : List α) (I : List α → Env → Prop) (hg : ∀ pre ρ, I pre ρ → Guard g all ρ) (h0 : I [] ρ)
    (hb : ∀ p y q ρ, ys = p ++ y :: q → I p ρ → ∃ ρ1, bd (inj y) ρ = some ρ1 ∧ ∀ K1 : Ks, K1.rt = K.rt → K1.ex = K.ex → K1.bk = K.nx → K1.ct = K1.nx → (∀ ρ2, I (p ++ [y]) ρ2 → K1.nx ρ2) → body ρ1 K1) (hn : ∀ ρ2, I ys ρ2 → K.nx ρ2) : forL g all bd body K (ys.map inj) ρ := by
  rw [goI_map inj 0]
  exact forL_inv (fun _ => inj) I hg ys [] ρ h0 (fun p y q ρ e i => hb p y q ρ (by simpa using e) i) (by simpa using hn)
theorem for_run {Γ : Nat → FS} {tg : Tg} {it : II} {b : List IS} {K : Ks} (itm : Nat → α → D) (ys : List α) (I : List α → Env → Prop) (hit : ∀ Q' : Option Nat → List D → Env → Prop, Q' g (goI itm 0 ys) ρ → wpI Γ it ρ Q' K.ex) (hgs : ∀ i, g = some i → i ∉ tg.slots ++ asgSs b) (h0 : I [] ρ) (hg : ∀ pre ρ, I pre ρ → Guard g (goI itm 0 ys) ρ)
    (hb : ∀ p y q ρ, ys = p ++ y :: q → I p ρ → ∃ ρ1, bindT tg (itm p.length y) ρ = some ρ1 ∧ ∀ K1 : Ks, K1.rt = K.rt → K1.ex = K.ex → K1.bk = K.nx → K1.ct = K1.nx → (∀ ρ2, I (p ++ [y]) ρ2 → K1.nx ρ2) → wpSs Γ b ρ1 K1) (hn : ∀ ρ2, I ys ρ2 → K.nx ρ2) : wpS Γ (.for tg it b) ρ K := by
  rw [wpS]
  refine hit _ ⟨hgs, ?_⟩
  exact forL_inv itm I hg ys [] ρ h0 (fun p y q ρ e i => hb p y q ρ (by simpa using e) i) (by simpa using hn)
theorem forM_run {Γ : Nat → FS} {tg : Tg} {it : II} {b : List IS} {K : Ks} (inj : α → D) (ys : List α) (I : List α → Env → Prop) (hit : ∀ Q' : Option Nat → List D → Env → Prop, Q' g (ys.map inj) ρ → wpI Γ it ρ Q' K.ex) (hgs : ∀ i, g = some i → i ∉ tg.slots ++ asgSs b) (h0 : I [] ρ) (hg : ∀ pre ρ, I pre ρ → Guard g (ys.map inj) ρ)
    (hb : ∀ p y q ρ, ys = p ++ y :: q → I p ρ → ∃ ρ1, bindT tg (inj y) ρ = some ρ1 ∧ ∀ K1 : Ks, K1.rt = K.rt → K1.ex = K.ex → K1.bk = K.nx → K1.ct = K1.nx → (∀ ρ2, I (p ++ [y]) ρ2 → K1.nx ρ2) → wpSs Γ b ρ1 K1) (hn : ∀ ρ2, I ys ρ2 → K.nx ρ2) : wpS Γ (.for tg it b) ρ K := by
  rw [goI_map inj 0] at hit hg
  exact for_run (fun _ => inj) ys I hit hgs h0 hg hb hn
theorem exp_run {Γ : Nat → FS} {e : IE} {K : Ks} (h : wp Γ e ρ (fun r ρ1 => opdR r ρ1 fun _ ρ2 => K.nx ρ2) K.ex) : wpS Γ (.exp e) ρ K := by rw [wpS]; exact h
theorem par_run {Γ : Nat → FS} {ns : List Nat} {es : List IE} {K : Ks} (h : wpP Γ es ρ (fun ss ρ1 => match setN ns ss ρ1 with | some ρ2 => K.nx ρ2 | none => False) K.ex) : wpS Γ (.par ns es) ρ K := by rw [wpS]; exact h
theorem wpP_nil {Γ : Nat → FS} {Q : List Slot → Env → Prop} {E : Xc → Env → Prop} : wpP Γ [] ρ Q E = Q [] ρ := rfl
theorem wpP_cons {Γ : Nat → FS} {e : IE} {es : List IE} {Q : List Slot → Env → Prop} {E : Xc → Env → Prop} {s : Slot} : wpP Γ (e :: es) (s :: ρ) Q E = wp Γ e (s :: ρ) (fun r ρ1 => slotW r ρ1 fun s ρ2 => wpP Γ es ρ2 (fun ss ρ3 => Q (s :: ss) ρ3) E) E := rfl
theorem setN_nil : setN [] [] ρ = some ρ := rfl
theorem setN_cons {i : Nat} {ns : List Nat} {s t : Slot} {ss : List Slot} : setN (i :: ns) (t :: ss) (s :: ρ) = if i < (s :: ρ).length then setN ns ss ((s :: ρ).set i t) else none := rfl
theorem sta_run {Γ : Nat → FS} {i c : Nat} {f : Str} {v : IE} {K : Ks} (h : wp Γ v ρ (fun r ρ1 => frzR r ρ1 fun y ρ2 => match ρ2[i]? with
    | some (.own (.obj c2 fs)) => (c2 = c ∧ fs.length < 900 ∧ (fs.map (·.1)).Nodup) ∧ K.nx (ρ2.set i (.own (.obj c (putG fs f (rdR ρ2 y)))))
    | _ => False) K.ex) : wpS Γ (.sta i c f v) ρ K := by rw [wpS]; exact h
theorem sti_run {Γ : Nat → FS} {i : Nat} {k v : IE} {K : Ks} (h : wp Γ v ρ (fun r ρ1 => frzR r ρ1 fun y ρ2 => match ρ2[i]? with
    | some (.own _) => wp Γ k ρ2 (fun r ρ3 => frzR r ρ3 fun x ρ4 => match ρ4[i]? with
      | some (.own c) => putC c (rdR ρ4 x) (rdR ρ4 y) fun c1 => K.nx (ρ4.set i (.own c1))
      | _ => False) K.ex
    | _ => False) K.ex) : wpS Γ (.sti i k v) ρ K := by rw [wpS]; exact h
theorem if_run {Γ : Nat → FS} {c : IE} {a b : List IS} {K : Ks} (h : wp Γ c ρ (fun r ρ1 => opdR r ρ1 fun x ρ2 => truW (rdR ρ2 x) fun k => if k = true then wpSs Γ a ρ2 K else wpSs Γ b ρ2 K) K.ex) : wpS Γ (.ite c a b) ρ K := by rw [wpS]; exact h
/-! ### comprehensions that change nothing -/
variable {Γ : Nat → FS} {Q : Res → Env → Prop} {E : Xc → Env → Prop} {tg : Tg} {it it2 : II} {ifs ifs2 : Option IE} {ke ve elt : IE} {vs vs1 : List Nat} {tg2 : Tg}
/-- [elt for tg in it if ..] -/
theorem lcp_run (inj : α → D) (ys : List α) (p : α → Bool) (h : α → D) (ρw : Env) (hit : ∀ Q' : Option Nat → List D → Env → Prop, Q' g (ys.map inj) ρ → wpI Γ it ρ Q' E) (hw : wipeE ρ vs = ρw) (hb : backE ρ ρw vs = ρ) (hn : noOwn ρ vs) (hgv : ∀ i, g = some i → i ∉ vs) (ht : ∀ i ∈ tg.slots, i ∈ vs) (hg : Guard g (ys.map inj) ρw)
    (hturn : ∀ y ∈ ys, ∀ K : Option D → Env → Prop, K (if p y = true then some (h y) else none) ρw → lcF tg vs (wpF Γ ifs) (wp Γ elt) (inj y) ρw K) (hq : Q (.own (.lst ((ys.filter p).map h))) ρ) : wp Γ (.lcp tg it ifs elt vs) ρ Q E := by
  rw [wp]
  refine hit _ ⟨hn, hgv, ht, ?_⟩
  rw [hw]
  refine turns_filter inj p h hg hturn ?_
  rw [hb]; exact hq
theorem lcpM_run (inj : α → D) (ys : List α) (h : α → D) (ρw : Env) (hit : ∀ Q' : Option Nat → List D → Env → Prop, Q' g (ys.map inj) ρ → wpI Γ it ρ Q' E) (hw : wipeE ρ vs = ρw) (hb : backE ρ ρw vs = ρ) (hn : noOwn ρ vs) (hgv : ∀ i, g = some i → i ∉ vs) (ht : ∀ i ∈ tg.slots, i ∈ vs) (hg : Guard g (ys.map inj) ρw)
    (hturn : ∀ y ∈ ys, ∀ K : Option D → Env → Prop, K (some (h y)) ρw → lcF tg vs (wpF Γ ifs) (wp Γ elt) (inj y) ρw K) (hq : Q (.own (.lst (ys.map h))) ρ) : wp Γ (.lcp tg it ifs elt vs) ρ Q E := by
  rw [wp]
  refine hit _ ⟨hn, hgv, ht, ?_⟩
  rw [hw]
  refine turns_map inj h hg hturn ?_
  rw [hb]; exact hq
/-- .. whose items are drawn -/
theorem lcpD_run (inj : α → D) (ys : List α) (P : D → Prop) (ρw : Env) (hit : ∀ Q' : Option Nat → List D → Env → Prop, Q' g (ys.map inj) ρ → wpI Γ it ρ Q' E) (hw : wipeE ρ vs = ρw) (hb : backE ρ ρw vs = ρ) (hn : noOwn ρ vs) (hgv : ∀ i, g = some i → i ∉ vs) (ht : ∀ i ∈ tg.slots, i ∈ vs) (hg : Guard g (ys.map inj) ρw)
    (hturn : ∀ y ∈ ys, ∀ K : Option D → Env → Prop, (∀ d, P d → K (some d) ρw) → lcF tg vs (wpF Γ ifs) (wp Γ elt) (inj y) ρw K) (hq : ∀ ds : List D, ds.length = ys.length → (∀ d ∈ ds, P d) → Q (.own (.lst ds)) ρ) : wp Γ (.lcp tg it ifs elt vs) ρ Q E := by
  rw [wp]
  refine hit _ ⟨hn, hgv, ht, ?_⟩
  rw [hw]
  refine turns_inv inj (fun ds => ∀ d ∈ ds, P d) hg ys (fun y hy acc K hp hk => hturn y hy K fun d hd => hk d fun x hx => ?_) [] _ (by simp) fun ds hl hp => ?_
  · rcases List.mem_append.mp hx with h | h
    · exact hp x h
    · simp at h; subst h; exact hd
  · rw [hb]; exact hq ds (by simpa using hl) hp
/-- {k: v for tg in it if ..} -/
theorem dcpK_run (inj : α → D) (ys : List α) (p : α → Bool) (k : α → Ky) (v : α → D) (ρw : Env) (hl : ys.length ≤ big) (hit : ∀ Q' : Option Nat → List D → Env → Prop, Q' g (ys.map inj) ρ → wpI Γ it ρ Q' E) (hw : wipeE ρ vs = ρw) (hb : backE ρ ρw vs = ρ) (hn : noOwn ρ vs) (hgv : ∀ i, g = some i → i ∉ vs) (ht : ∀ i ∈ tg.slots, i ∈ vs) (hg : Guard g (ys.map inj) ρw)
    (hturn : ∀ y ∈ ys, ∀ kvs (K : Cell → Env → Prop), kvs.length < big → K (.dK (if p y = true then putG kvs (k y) (v y) else kvs)) ρw → dcF tg vs (wpF Γ ifs) (bdPut (wp Γ ke) (wp Γ ve)) (inj y) ρw (.dK kvs) K) (hq : Q (.own (.dK (putAll [] ((ys.filter p).map fun y => (k y, v y))))) ρ) : wp Γ (.dcp false tg it ifs ke ve vs) ρ Q E := by
  rw [wp]
  refine hit _ ⟨hn, hgv, ht, ?_⟩
  rw [hw]
  refine turnsC_dK inj p k v hl hg hturn ?_
  rw [hb]; exact hq
theorem dcpT_run (inj : α → D) (ys : List α) (p : α → Bool) (k : α → List Ky) (v : α → D) (ρw : Env) (hl : ys.length ≤ big) (hit : ∀ Q' : Option Nat → List D → Env → Prop, Q' g (ys.map inj) ρ → wpI Γ it ρ Q' E) (hw : wipeE ρ vs = ρw) (hb : backE ρ ρw vs = ρ) (hn : noOwn ρ vs) (hgv : ∀ i, g = some i → i ∉ vs) (ht : ∀ i ∈ tg.slots, i ∈ vs) (hg : Guard g (ys.map inj) ρw)
    (hturn : ∀ y ∈ ys, ∀ kvs (K : Cell → Env → Prop), kvs.length < big → K (.dT (if p y = true then putG kvs (k y) (v y) else kvs)) ρw → dcF tg vs (wpF Γ ifs) (bdPut (wp Γ ke) (wp Γ ve)) (inj y) ρw (.dT kvs) K) (hq : Q (.own (.dT (putAll [] ((ys.filter p).map fun y => (k y, v y))))) ρ) : wp Γ (.dcp true tg it ifs ke ve vs) ρ Q E := by
  rw [wp]
  refine hit _ ⟨hn, hgv, ht, ?_⟩
  rw [hw]
  refine turnsC_dT inj p k v (kvs0 := []) (by simpa using hl) hg hturn ?_
  rw [hb]; exact hq
/-- a clause within a clause, over a dict with tuple keys -/
theorem turnsC_2T {β : Type} {bd : BD} {wi : Env → (Option Nat → List D → Env → Prop) → (Xc → Env → Prop) → Prop} {wf wf2 : Env → (Bool → Env → Prop) → Prop} (inj : α → D) (inj2 : β → D) (zs : α → List β) (p2 : α → β → Bool) (k : α → β → List Ky) (v : α → β → D) (ρo : α → Env) {ρw : Env} {all : List D} (ht : ∀ i ∈ tg2.slots, i ∈ vs1) (hvs : ∀ i ∈ vs1, i ∈ vs) : ∀ (ys : List α) (kvs0 : List (List Ky × D)) (Q : Cell → Env → Prop),
    (∀ y ∈ ys, bindT tg (inj y) ρw = some (ρo y) ∧ (∀ K : Bool → Env → Prop, K true (ρo y) → wf (ρo y) K) ∧ noOwn (ρo y) vs1 ∧ wipeE (ρo y) vs1 = ρo y ∧ wipeE (ρo y) vs = ρw ∧ (∀ Q' : Option Nat → List D → Env → Prop, Q' none ((zs y).map inj2) (ρo y) → wi (ρo y) Q' (fun _ _ => False)) ∧
      ∀ z ∈ zs y, ∀ kvs (K : Cell → Env → Prop), kvs.length < big → K (.dT (if p2 y z = true then putG kvs (k y z) (v y z) else kvs)) (ρo y) → dcF tg2 vs1 wf2 bd (inj2 z) (ρo y) (.dT kvs) K) →
    kvs0.length + (ys.flatMap zs).length ≤ big → Q (.dT (putAll kvs0 (ys.flatMap fun y => ((zs y).filter (p2 y)).map fun z => (k y z, v y z)))) ρw →
    turnsC none all (dcF tg vs wf (bdInn tg2 vs vs1 wi wf2 bd)) (ys.map inj) ρw (.dT kvs0) Q
  | [], kvs0, Q, _, _, q => by simpa [turnsC, putAll] using q
  | y :: ys, kvs0, Q, h, hl, q => by
    obtain ⟨h1, h2, h3, h4, h5, h6, h7⟩ := h y (by simp)
    rw [List.map_cons]
    unfold turnsC
    rw [List.flatMap_cons, List.length_append] at hl
    show (match bindT tg (inj y) ρw with | some ρ1 => _ | none => False)
    rw [h1]
    refine h2 _ ?_
    rw [if_pos rfl]
    refine h6 _ ⟨⟨h3, (fun _ z => nomatch z), ht, hvs⟩, ?_⟩
    rw [h4]
    refine turnsC_dT inj2 (p2 y) (k y) (v y) (by omega) trivial h7 ⟨trivial, ?_⟩
    rw [h5]
    refine turnsC_2T inj inj2 zs p2 k v ρo ht hvs ys _ Q (fun z hz => h z (by simp [hz])) ?_ ?_
    · have e1 := putAll_len (kvs := kvs0) (ps := ((zs y).filter (p2 y)).map fun z => (k y z, v y z))
      have e2 := List.length_filter_le (p2 y) (zs y)
      rw [List.length_map] at e1
      omega
    · rw [List.flatMap_cons] at q
      unfold putAll at q ⊢
      rw [List.foldl_append] at q
      exact q
theorem dc2T_run {β : Type} (inj : α → D) (inj2 : β → D) (ys : List α) (zs : α → List β) (p2 : α → β → Bool) (k : α → β → List Ky) (v : α → β → D) (ρo : α → Env) (ρw : Env) (hl : (ys.flatMap zs).length ≤ big) (hit : ∀ Q' : Option Nat → List D → Env → Prop, Q' none (ys.map inj) ρ → wpI Γ it ρ Q' E) (hw : wipeE ρ vs = ρw) (hb : backE ρ ρw vs = ρ) (hn : noOwn ρ vs) (ht : ∀ i ∈ tg.slots, i ∈ vs) (ht2 : ∀ i ∈ tg2.slots, i ∈ vs1) (hvs : ∀ i ∈ vs1, i ∈ vs)
    (hturn : ∀ y ∈ ys, bindT tg (inj y) ρw = some (ρo y) ∧ (∀ K : Bool → Env → Prop, K true (ρo y) → wpF Γ ifs (ρo y) K) ∧ noOwn (ρo y) vs1 ∧ wipeE (ρo y) vs1 = ρo y ∧ wipeE (ρo y) vs = ρw ∧ (∀ Q' : Option Nat → List D → Env → Prop, Q' none ((zs y).map inj2) (ρo y) → wpI Γ it2 (ρo y) Q' (fun _ _ => False)) ∧
      ∀ z ∈ zs y, ∀ kvs (K : Cell → Env → Prop), kvs.length < big → K (.dT (if p2 y z = true then putG kvs (k y z) (v y z) else kvs)) (ρo y) → dcF tg2 vs1 (wpF Γ ifs2) (bdPut (wp Γ ke) (wp Γ ve)) (inj2 z) (ρo y) (.dT kvs) K)
    (hq : Q (.own (.dT (putAll [] (ys.flatMap fun y => ((zs y).filter (p2 y)).map fun z => (k y z, v y z))))) ρ) : wp Γ (.dc2 true tg it ifs tg2 it2 ifs2 ke ve vs vs1) ρ Q E := by
  rw [wp]
  refine hit _ ⟨hn, (fun _ z => nomatch z), ht, ?_⟩
  rw [hw]
  refine turnsC_2T inj inj2 zs p2 k v ρo ht2 hvs ys [] _ hturn (by simpa using hl) ?_
  rw [hb]; exact hq
/-- .. over a list -/
theorem turnsC_2L {β : Type} {we : Env → (Res → Env → Prop) → (Xc → Env → Prop) → Prop} {wi : Env → (Option Nat → List D → Env → Prop) → (Xc → Env → Prop) → Prop} {wf wf2 : Env → (Bool → Env → Prop) → Prop} (inj : α → D) (inj2 : β → D) (p : α → Bool) (zs : α → List β) (p2 : α → β → Bool) (v : α → β → D) (ρo : α → Env) {ρw : Env} {all : List D} (ht : ∀ i ∈ tg2.slots, i ∈ vs1) (hvs : ∀ i ∈ vs1, i ∈ vs) : ∀ (ys : List α) (acc : List D) (Q : Cell → Env → Prop),
    (∀ y ∈ ys, bindT tg (inj y) ρw = some (ρo y) ∧ (∀ K : Bool → Env → Prop, K (p y) (ρo y) → wf (ρo y) K) ∧ noOwn (ρo y) vs1 ∧ wipeE (ρo y) vs1 = ρo y ∧ wipeE (ρo y) vs = ρw ∧ (∀ Q' : Option Nat → List D → Env → Prop, Q' none ((zs y).map inj2) (ρo y) → wi (ρo y) Q' (fun _ _ => False)) ∧
      ∀ z ∈ zs y, ∀ acc (K : Cell → Env → Prop), acc.length < big → K (.lst (if p2 y z = true then acc ++ [v y z] else acc)) (ρo y) → dcF tg2 vs1 wf2 (bdApp we) (inj2 z) (ρo y) (.lst acc) K) →
    acc.length + (ys.flatMap zs).length ≤ big → Q (.lst (acc ++ ((ys.filter p).flatMap fun y => ((zs y).filter (p2 y)).map fun z => v y z))) ρw →
    turnsC none all (dcF tg vs wf (bdInn tg2 vs vs1 wi wf2 (bdApp we))) (ys.map inj) ρw (.lst acc) Q
  | [], acc, Q, _, _, q => by simpa [turnsC] using q
  | y :: ys, acc, Q, h, hl, q => by
    obtain ⟨h1, h2, h3, h4, h5, h6, h7⟩ := h y (by simp)
    rw [List.map_cons]
    unfold turnsC
    rw [List.flatMap_cons, List.length_append] at hl
    show (match bindT tg (inj y) ρw with | some ρ1 => _ | none => False)
    rw [h1]
    refine h2 _ ?_
    by_cases e : p y = true
    · rw [if_pos e]
      refine h6 _ ⟨⟨h3, (fun _ z => nomatch z), ht, hvs⟩, ?_⟩
      rw [h4]
      have inner : ∀ (ws : List β) (acc : List D) (Q : Cell → Env → Prop), (∀ w ∈ ws, w ∈ zs y) → acc.length + ws.length ≤ big → Q (.lst (acc ++ (ws.filter (p2 y)).map fun z => v y z)) (ρo y) → turnsC none ((zs y).map inj2) (dcF tg2 vs1 wf2 (bdApp we)) (ws.map inj2) (ρo y) (.lst acc) Q := by
        intro ws
        induction ws with
        | nil => intro acc Q _ _ q; simpa [turnsC] using q
        | cons w ws ih =>
          intro acc Q hm hn q
          rw [List.map_cons]
          unfold turnsC
          simp only [List.length_cons] at hn
          refine h7 w (hm w (by simp)) acc _ (by omega) ⟨trivial, ih _ Q (fun x hx => hm x (by simp [hx])) ?_ ?_⟩
          · split
            · rw [List.length_append, List.length_singleton]; omega
            · omega
          · by_cases e : p2 y w = true
            · rw [List.filter_cons, if_pos e] at q; rw [if_pos e]; simpa using q
            · rw [List.filter_cons, if_neg e] at q; rw [if_neg e]; exact q
      refine inner (zs y) acc _ (fun _ h => h) (by omega) ⟨trivial, ?_⟩
      rw [h5]
      refine turnsC_2L inj inj2 p zs p2 v ρo ht hvs ys _ Q (fun z hz => h z (by simp [hz])) ?_ ?_
      · have e2 := List.length_filter_le (p2 y) (zs y)
        rw [List.length_append, List.length_map]
        omega
      · rw [List.filter_cons, if_pos e, List.flatMap_cons, ← List.append_assoc] at q
        exact q
    · rw [if_neg e]
      rw [h5]
      refine ⟨trivial, turnsC_2L inj inj2 p zs p2 v ρo ht hvs ys _ Q (fun z hz => h z (by simp [hz])) (by omega) ?_⟩
      rw [List.filter_cons, if_neg e] at q
      exact q
theorem lc2_run {β : Type} (inj : α → D) (inj2 : β → D) (ys : List α) (p : α → Bool) (zs : α → List β) (p2 : α → β → Bool) (v : α → β → D) (ρo : α → Env) (ρw : Env) (hl : (ys.flatMap zs).length ≤ big) (hit : ∀ Q' : Option Nat → List D → Env → Prop, Q' none (ys.map inj) ρ → wpI Γ it ρ Q' E) (hw : wipeE ρ vs = ρw) (hb : backE ρ ρw vs = ρ) (hn : noOwn ρ vs) (ht : ∀ i ∈ tg.slots, i ∈ vs) (ht2 : ∀ i ∈ tg2.slots, i ∈ vs1) (hvs : ∀ i ∈ vs1, i ∈ vs)
    (hturn : ∀ y ∈ ys, bindT tg (inj y) ρw = some (ρo y) ∧ (∀ K : Bool → Env → Prop, K (p y) (ρo y) → wpF Γ ifs (ρo y) K) ∧ noOwn (ρo y) vs1 ∧ wipeE (ρo y) vs1 = ρo y ∧ wipeE (ρo y) vs = ρw ∧ (∀ Q' : Option Nat → List D → Env → Prop, Q' none ((zs y).map inj2) (ρo y) → wpI Γ it2 (ρo y) Q' (fun _ _ => False)) ∧
      ∀ z ∈ zs y, ∀ acc (K : Cell → Env → Prop), acc.length < big → K (.lst (if p2 y z = true then acc ++ [v y z] else acc)) (ρo y) → dcF tg2 vs1 (wpF Γ ifs2) (bdApp (wp Γ elt)) (inj2 z) (ρo y) (.lst acc) K)
    (hq : Q (.own (.lst ((ys.filter p).flatMap fun y => ((zs y).filter (p2 y)).map fun z => v y z))) ρ) : wp Γ (.lc2 tg it ifs tg2 it2 ifs2 elt vs vs1) ρ Q E := by
  rw [wp]
  refine hit _ ⟨hn, (fun _ z => nomatch z), ht, ?_⟩
  rw [hw]
  refine turnsC_2L inj inj2 p zs p2 v ρo ht2 hvs ys [] _ hturn (by simpa using hl) ?_
  rw [hb]; exact hq
end
theorem k_ite {α β : Type} {c : Prop} [Decidable c] {K : α → β → Prop} {a b : α} {ρ : β} (h : K (if c then a else b) ρ) : if c then K a ρ else K b ρ := by
  split
  · rename_i e; rw [if_pos e] at h; exact h
  · rename_i e; rw [if_neg e] at h; exact h
theorem atG_zero {α : Type} {x : α} {xs : List α} : atG (x :: xs) 0 = some x := by
  unfold atG ixG
  rw [if_pos (by decide), if_pos (by simp only [List.length_cons]; omega)]; rfl
theorem noOwn_lit {ρ : Env} {vs : List Nat} (h : (vs.all fun v => !(match ρ[v]? with | some (.own _) => true | _ => false)) = true) : noOwn ρ vs := fun v hv c e => by
  have := List.all_eq_true.mp h v hv
  rw [e] at this
  simp at this
end Mi
namespace Mi
open PySem
section
variable {Γ : Nat → FS} {s : Slot} {ρ ρ' : Env}

def varW (o : Option Slot) (i : Nat) (Q : Res → Env → Prop) (ρ : Env) : Prop := match o with
  | some (.val d) => Q (.val d) ρ
  | some (.own _) => Q (.slot i) ρ
  | _ => False
theorem wp_var {i Q E} : wp Γ (.var i) (s :: ρ) Q E = varW ((s :: ρ)[i]?) i Q (s :: ρ) := by rfl
theorem varW_val {i d Q} : varW (some (.val d)) i Q ρ = Q (.val d) ρ := rfl
def frzS (o : Option Slot) (i : Nat) (Q : Res → Env → Prop) (ρ : Env) : Prop := match o with
  | some (.own c) => c.fz = true ∧ Q (.val c.d) (ρ.set i (.val c.d))
  | _ => False
def sltS (o : Option Slot) (i : Nat) (Q : Slot → Env → Prop) (ρ : Env) : Prop := match o with
  | some (.own c) => c.fz = true ∧ Q (.val c.d) (ρ.set i (.val c.d))
  | _ => False
def retS (o : Option Slot) (i : Nat) (Q : Res → Env → Prop) (ρ : Env) : Prop := match o with
  | some (.own c) => Q (.own c) (ρ.set i .non)
  | _ => False
theorem frzR_slot {i Q} : frzR (.slot i) (s :: ρ) Q = frzS ((s :: ρ)[i]?) i Q (s :: ρ) := rfl
theorem frzS_own {i c Q} : frzS (some (.own c)) i Q ρ = (c.fz = true ∧ Q (.val c.d) (ρ.set i (.val c.d))) := rfl
theorem slotW_slot {i Q} : slotW (.slot i) (s :: ρ) Q = sltS ((s :: ρ)[i]?) i Q (s :: ρ) := rfl
theorem sltS_own {i c Q} : sltS (some (.own c)) i Q ρ = (c.fz = true ∧ Q (.val c.d) (ρ.set i (.val c.d))) := rfl
theorem retW_slot {i Q} : retW (.slot i) (s :: ρ) Q = retS ((s :: ρ)[i]?) i Q (s :: ρ) := rfl
theorem retS_own {i c Q} : retS (some (.own c)) i Q ρ = Q (.own c) (ρ.set i .non) := rfl
theorem varW_own {i c Q} : varW (some (.own c)) i Q ρ = Q (.slot i) ρ := rfl
theorem wp_con {d} {Q} {E} : wp Γ (.con d) (s :: ρ) Q E = (fun (ρ : Env) => Q (.val d) ρ) (s :: ρ) := by first | rfl | (rw [wp]; rfl)
theorem wp_frz {a} {Q} {E} : wp Γ (.frz a) (s :: ρ) Q E = (fun (ρ : Env) => wp Γ a ρ (fun r ρ1 => frzR r ρ1 Q) E) (s :: ρ) := by first | rfl | (rw [wp]; rfl)
theorem wp_bin {op a b} {Q} {E} : wp Γ (.bin op a b) (s :: ρ) Q E = (fun (ρ : Env) => wp Γ a ρ (fun r ρ1 => opdR r ρ1 fun x ρ2 => wp Γ b ρ2 (fun r ρ3 => opdR r ρ3 fun y ρ4 => binW op (rdR ρ4 x) (rdR ρ4 y) fun z => Q z ρ4) E) E) (s :: ρ) := by first | rfl | (rw [wp]; rfl)
theorem wp_neg {a} {Q} {E} : wp Γ (.neg a) (s :: ρ) Q E = (fun (ρ : Env) => wp Γ a ρ (fun r ρ1 => opdR r ρ1 fun x ρ2 => match rdR ρ2 x with
    | .int i => Q (.val (.int (-i))) ρ2
    | _ => False) E) (s :: ρ) := by first | rfl | (rw [wp]; rfl)
theorem wp_cmp {op a b} {Q} {E} : wp Γ (.cmp op a b) (s :: ρ) Q E = (fun (ρ : Env) => wp Γ a ρ (fun r ρ1 => opdR r ρ1 fun x ρ2 => wp Γ b ρ2 (fun r ρ3 => opdR r ρ3 fun y ρ4 => cmpW op (rdR ρ4 x) (rdR ρ4 y) fun z => Q (.val (.bl z)) ρ4) E) E) (s :: ρ) := by first | rfl | (rw [wp]; rfl)
theorem wp_chn {op op2 a b c} {Q} {E} : wp Γ (.chn op op2 a b c) (s :: ρ) Q E = (fun (ρ : Env) => wp Γ a ρ (fun r ρ1 => opdR r ρ1 fun x ρ2 => wp Γ b ρ2 (fun r ρ3 => opdR r ρ3 fun y ρ4 => cmpW op (rdR ρ4 x) (rdR ρ4 y) fun z =>
      if z = true then wp Γ c ρ4 (fun r ρ5 => opdR r ρ5 fun w ρ6 => cmpW op2 (rdR ρ6 y) (rdR ρ6 w) fun z2 => Q (.val (.bl z2)) ρ6) E else Q (.val (.bl false)) ρ4) E) E) (s :: ρ) := by first | rfl | (rw [wp]; rfl)
theorem wp_and {a b} {Q} {E} : wp Γ (.and a b) (s :: ρ) Q E = (fun (ρ : Env) => wp Γ a ρ (fun r ρ1 => opdR r ρ1 fun x ρ2 => truW (rdR ρ2 x) fun c => if c = true then wp Γ b ρ2 Q E else Q (.val (.bl false)) ρ2) E) (s :: ρ) := by first | rfl | (rw [wp]; rfl)
theorem wp_or {a b} {Q} {E} : wp Γ (.or a b) (s :: ρ) Q E = (fun (ρ : Env) => wp Γ a ρ (fun r ρ1 => opdR r ρ1 fun x ρ2 => truW (rdR ρ2 x) fun c => if c = true then Q (.val (.bl true)) ρ2 else wp Γ b ρ2 Q E) E) (s :: ρ) := by first | rfl | (rw [wp]; rfl)
theorem wp_not {a} {Q} {E} : wp Γ (.not a) (s :: ρ) Q E = (fun (ρ : Env) => wp Γ a ρ (fun r ρ1 => opdR r ρ1 fun x ρ2 => truW (rdR ρ2 x) fun c => Q (.val (.bl (!c))) ρ2) E) (s :: ρ) := by first | rfl | (rw [wp]; rfl)
theorem wp_ifx {c a b} {Q} {E} : wp Γ (.ifx c a b) (s :: ρ) Q E = (fun (ρ : Env) => wp Γ c ρ (fun r ρ1 => opdR r ρ1 fun x ρ2 => truW (rdR ρ2 x) fun k => if k = true then wp Γ a ρ2 Q E else wp Γ b ρ2 Q E) E) (s :: ρ) := by first | rfl | (rw [wp]; rfl)
theorem wp_tup {es} {Q} {E} : wp Γ (.tup es) (s :: ρ) Q E = (fun (ρ : Env) => wpL Γ es ρ (fun rs ρ1 => (rs.all Res.isVal = true ∧ rs.length ≤ big) ∧ Q (.val (.tup (rs.map (rdR ρ1)))) ρ1) E) (s :: ρ) := by first | rfl | (rw [wp]; rfl)
theorem wp_lst {es} {Q} {E} : wp Γ (.lst es) (s :: ρ) Q E = (fun (ρ : Env) => wpL Γ es ρ (fun rs ρ1 => (rs.all Res.isVal = true ∧ rs.length ≤ big) ∧ Q (.own (.lst (rs.map (rdR ρ1)))) ρ1) E) (s :: ρ) := by first | rfl | (rw [wp]; rfl)
theorem wp_dct {t es} {Q} {E} : wp Γ (.dct t es) (s :: ρ) Q E = (fun (ρ : Env) => wpZ Γ es ρ (fun ds ρ1 => match t, ds with
    | true, [] => Q (.own (.dT [])) ρ1
    | true, _ => False
    | false, ds => match pairsG ds with
      | some ps => ps.length ≤ 15 ∧ Q (.own (.dK (ps.foldl (fun a p => putG a p.1 p.2) []))) ρ1
      | none => False) E) (s :: ρ) := by first | rfl | (rw [wp]; rfl)
theorem wp_sub {a b} {Q} {E} : wp Γ (.sub a b) (s :: ρ) Q E = (fun (ρ : Env) => wp Γ a ρ (fun r ρ1 => opdR r ρ1 fun x ρ2 => wp Γ b ρ2 (fun r ρ3 => opdR r ρ3 fun y ρ4 => subW (rdR ρ4 x) (rdR ρ4 y) fun z => Q (.val z) ρ4) E) E) (s :: ρ) := by first | rfl | (rw [wp]; rfl)
theorem wp_slc {a lo hi} {Q} {E} : wp Γ (.slc a lo hi) (s :: ρ) Q E = (fun (ρ : Env) => wp Γ a ρ (fun r ρ1 => opdR r ρ1 fun x ρ2 => wpO Γ lo ρ2 (fun l ρ3 => wpO Γ hi ρ3 (fun h ρ4 => slcW (rdR ρ4 x) l h fun z => Q z ρ4) E) E) E) (s :: ρ) := by first | rfl | (rw [wp]; rfl)
theorem wp_rvs {a} {Q} {E} : wp Γ (.rvs a) (s :: ρ) Q E = (fun (ρ : Env) => wp Γ a ρ (fun r ρ1 => opdR r ρ1 fun x ρ2 => rvsW (rdR ρ2 x) fun z => Q z ρ2) E) (s :: ρ) := by first | rfl | (rw [wp]; rfl)
theorem wp_att {a f} {Q} {E} : wp Γ (.att a f) (s :: ρ) Q E = (fun (ρ : Env) => wp Γ a ρ (fun r ρ1 => opdR r ρ1 fun x ρ2 => attW (rdR ρ2 x) f fun z => Q (.val z) ρ2) E) (s :: ρ) := by first | rfl | (rw [wp]; rfl)
theorem wp_blt {b es} {Q} {E} : wp Γ (.blt b es) (s :: ρ) Q E = (fun (ρ : Env) => wpL Γ es ρ (fun rs ρ1 => bltW b (rs.map (rdR ρ1)) fun z => Q z ρ1) E) (s :: ρ) := by first | rfl | (rw [wp]; rfl)
theorem wp_mth {m a es} {Q} {E} : wp Γ (.mth m a es) (s :: ρ) Q E = (fun (ρ : Env) => wp Γ a ρ (fun r ρ1 => opdR r ρ1 fun x ρ2 => rcvOk m (rdR ρ2 x).kind = true ∧ wpL Γ es ρ2 (fun rs ρ3 => (rdR ρ3 x).kind = (rdR ρ2 x).kind ∧ mthW m (rdR ρ3 x) (rs.map (rdR ρ3)) fun z => Q z ρ3) E) E) (s :: ρ) := by first | rfl | (rw [wp]; rfl)
theorem wp_mut {m i es} {Q} {E} : wp Γ (.mut m i es) (s :: ρ) Q E = (fun (ρ : Env) => match ρ[i]? with
    | some (.own (.lst _)) => wpL Γ es ρ (fun rs ρ1 => rs.all Res.isVal = true ∧ match ρ1[i]? with
      | some (.own (.lst ys)) => muW m ys (rs.map (rdR ρ1)) fun z zs => Q (.val z) (ρ1.set i (.own (.lst zs)))
      | _ => False) E
    | _ => False) (s :: ρ) := by first | rfl | (rw [wp]; rfl)
theorem wp_isi {a c} {Q} {E} : wp Γ (.isi a c) (s :: ρ) Q E = (fun (ρ : Env) => wp Γ a ρ (fun r ρ1 => opdR r ρ1 fun x ρ2 => isiOk (rdR ρ2 x) = true ∧ Q (.val (.bl (isiB c (rdR ρ2 x)))) ρ2) E) (s :: ρ) := by first | rfl | (rw [wp]; rfl)
theorem wp_call {f es ds} {Q} {E} : wp Γ (.call f es ds) (s :: ρ) Q E = (fun (ρ : Env) => wpL Γ es ρ (fun rs ρ1 => callW Γ f (rs ++ ds.map Res.val) ρ1 Q E) E) (s :: ρ) := by first | rfl | (rw [wp]; rfl)
theorem wp_make {c f es ds} {Q} {E} : wp Γ (.make c f es ds) (s :: ρ) Q E = (fun (ρ : Env) => wpL Γ es ρ (fun rs ρ1 => (slotsIn rs).Nodup ∧ Γ f (.own (.obj c []) :: (rs ++ ds.map Res.val).map (slR ρ1))
      (fun r ss => match r, ss with
        | .val .non, .own (.obj c2 fs) :: ss => c2 = c ∧ Q (.own (.obj c fs)) (back1 (rs ++ ds.map Res.val) ss ρ1)
        | _, _ => False) fun x ss => E x (back1 (rs ++ ds.map Res.val) ss.tail ρ1)) E) (s :: ρ) := by first | rfl | (rw [wp]; rfl)
theorem wp_mcl {c m f a es ds} {Q} {E} : wp Γ (.mcl c m f a es ds) (s :: ρ) Q E = (fun (ρ : Env) => wp Γ a ρ (fun r ρ1 => opdR r ρ1 fun x ρ2 => match rdR ρ2 x with
    | .obj c2 fs => (c2 = c ∧ valG fs m = none) ∧ wpL Γ es ρ2 (fun rs ρ3 => callW Γ f ((x :: rs) ++ ds.map Res.val) ρ3 Q E) E
    | _ => False) E) (s :: ρ) := by first | rfl | (rw [wp]; rfl)
theorem wp_drw {e i} {Q} {E} : wp Γ (.drw e i) (s :: ρ) Q E = (fun (ρ : Env) => wp Γ e ρ (fun r ρ1 => match r with
    | .own (.lst gs) => (∃ ns : List Int, gs = ns.map D.int ∧ ns.length ≤ 63 ∧ ∀ n ∈ ns, 0 < n) ∧ match ρ1[i]? with
      | some (.own (.lst cs)) => (∃ ns : List Int, cs = ns.map D.int ∧ ns.length ≤ 63) ∧ Q (.own .draw) (ρ1.set i .non)
      | _ => False
    | _ => False) E) (s :: ρ) := by first | rfl | (rw [wp]; rfl)
theorem wp_dnu {k c f a} {Q} {E} : wp Γ (.dnu k c f a) (s :: ρ) Q E = (fun (ρ : Env) => wp Γ a ρ (fun r ρ1 => opdR r ρ1 fun x ρ2 => match rdR ρ2 x with
    | .obj c2 _ => c2 = c ∧ callW Γ f [x] ρ2 (fun z ρ3 => dunR k z fun z2 => Q z2 ρ3) E
    | _ => False) E) (s :: ρ) := by first | rfl | (rw [wp]; rfl)
theorem wp_dnb {k c f a b} {Q} {E} : wp Γ (.dnb k c f a b) (s :: ρ) Q E = (fun (ρ : Env) => wp Γ a ρ (fun r ρ1 => opdR r ρ1 fun x ρ2 => wp Γ b ρ2 (fun r ρ3 => opdR r ρ3 fun y ρ4 => match rdR ρ4 (dunS k x y) with
    | .obj c2 _ => (c2 = c ∧ dunO k c (rdR ρ4 y)) ∧ callW Γ f (dunA k x y) ρ4 (fun z ρ5 => dunR k z fun z2 => Q z2 ρ5) E
    | _ => False) E) E) (s :: ρ) := by first | rfl | (rw [wp]; rfl)
theorem wpL_nil {Q} {E} : wpL Γ [] (s :: ρ) Q E = (fun (ρ : Env) => Q [] ρ) (s :: ρ) := by first | rfl | (rw [wpL]; rfl)
theorem wpL_cons {e es} {Q} {E} : wpL Γ (e :: es) (s :: ρ) Q E = (fun (ρ : Env) => wp Γ e ρ (fun r ρ1 => opdR r ρ1 fun x ρ2 => wpL Γ es ρ2 (fun rs ρ3 => Q (x :: rs) ρ3) E) E) (s :: ρ) := by first | rfl | (rw [wpL]; rfl)
theorem wpZ_nil {Q} {E} : wpZ Γ [] (s :: ρ) Q E = (fun (ρ : Env) => Q [] ρ) (s :: ρ) := by first | rfl | (rw [wpZ]; rfl)
theorem wpZ_cons {e es} {Q} {E} : wpZ Γ (e :: es) (s :: ρ) Q E = (fun (ρ : Env) => wp Γ e ρ (fun r ρ1 => frzR r ρ1 fun x ρ2 => wpZ Γ es ρ2 (fun ds ρ3 => Q (rdR ρ2 x :: ds) ρ3) E) E) (s :: ρ) := by first | rfl | (rw [wpZ]; rfl)
theorem wpO_none {Q} {E} : wpO Γ none (s :: ρ) Q E = (fun (ρ : Env) => Q none ρ) (s :: ρ) := by first | rfl | (rw [wpO]; rfl)
theorem wpO_some {e} {Q} {E} : wpO Γ (some e) (s :: ρ) Q E = (fun (ρ : Env) => wp Γ e ρ (fun r ρ1 => opdR r ρ1 fun x ρ2 => match rdR ρ2 x with
    | .int i => Q (some i) ρ2
    | _ => False) E) (s :: ρ) := by first | rfl | (rw [wpO]; rfl)
theorem wpF_none {Q} : wpF Γ none (s :: ρ) Q = (fun (ρ : Env) => Q true ρ) (s :: ρ) := by first | rfl | (rw [wpF]; rfl)
theorem wpF_some {e} {Q} : wpF Γ (some e) (s :: ρ) Q = (fun (ρ : Env) => wp Γ e ρ (fun r ρ1 => opdR r ρ1 fun x ρ2 => truW (rdR ρ2 x) fun b => Q b ρ2) fun _ _ => False) (s :: ρ) := by first | rfl | (rw [wpF]; rfl)
theorem wpI_it {e} {Q} {E} : wpI Γ (.it e) (s :: ρ) Q E = (fun (ρ : Env) => wp Γ e ρ (fun r ρ1 => opdR r ρ1 fun x ρ2 => match x with
    | .slot i => match ρ2[i]? with
      | some (.own (.lst ds)) => Q (some i) ds ρ2
      | _ => False
    | x => match D.items (rdR ρ2 x) with
      | some ds => Q none ds ρ2
      | none => False) E) (s :: ρ) := by first | rfl | (rw [wpI]; rfl)
theorem wpI_rng {e} {Q} {E} : wpI Γ (.rng e) (s :: ρ) Q E = (fun (ρ : Env) => wp Γ e ρ (fun r ρ1 => opdR r ρ1 fun x ρ2 => match rdR ρ2 x with
    | .int n => (-(2 ^ 62) ≤ n ∧ n ≤ big) ∧ Q none (rngG 0 n.toNat) ρ2
    | _ => False) E) (s :: ρ) := by first | rfl | (rw [wpI]; rfl)
theorem wpI_rng2 {a b} {Q} {E} : wpI Γ (.rng2 a b) (s :: ρ) Q E = (fun (ρ : Env) => wp Γ a ρ (fun r ρ1 => opdR r ρ1 fun x ρ2 => wp Γ b ρ2 (fun r ρ3 => opdR r ρ3 fun y ρ4 => match rdR ρ4 x, rdR ρ4 y with
    | .int lo, .int hi => (-(2 ^ 62) ≤ lo ∧ lo < 2 ^ 62 ∧ -(2 ^ 62) ≤ hi ∧ hi < 2 ^ 62 ∧ hi - lo ≤ big) ∧ Q none (rngG lo (hi - lo).toNat) ρ4
    | _, _ => False) E) E) (s :: ρ) := by first | rfl | (rw [wpI]; rfl)
theorem wpI_enum {e} {Q} {E} : wpI Γ (.enum e) (s :: ρ) Q E = (fun (ρ : Env) => wp Γ e ρ (fun r ρ1 => opdR r ρ1 fun x ρ2 => match x with
    | .val (.lst ds) => Q none (enumG 0 ds) ρ2
    | _ => False) E) (s :: ρ) := by first | rfl | (rw [wpI]; rfl)
theorem wpI_zip {a b} {Q} {E} : wpI Γ (.zip a b) (s :: ρ) Q E = (fun (ρ : Env) => wp Γ a ρ (fun r ρ1 => opdR r ρ1 fun x ρ2 => wp Γ b ρ2 (fun r ρ3 => opdR r ρ3 fun y ρ4 => match x, y with
    | .val (.tup xs), .val (.tup ys) => Q none (zipG xs ys) ρ4
    | .val (.ftp xs), .val (.tup ys) => Q none (zipG xs ys) ρ4
    | .val (.lst xs), .val (.lst ys) => Q none (zipG xs ys) ρ4
    | _, _ => False) E) E) (s :: ρ) := by first | rfl | (rw [wpI]; rfl)
theorem wpI_items {e} {Q} {E} : wpI Γ (.items e) (s :: ρ) Q E = (fun (ρ : Env) => wp Γ e ρ (fun r ρ1 => opdR r ρ1 fun x ρ2 => match x with
    | .val (.dK kvs) => Q none (kvs.map fun kv => .tup [kD kv.1, kv.2]) ρ2
    | .val (.dT kvs) => Q none (kvs.map fun kv => .tup [.tup (kv.1.map kD), kv.2]) ρ2
    | _ => False) E) (s :: ρ) := by first | rfl | (rw [wpI]; rfl)
theorem opdR_val {d Q} : (opdR (.val d) ρ' Q) = (Q (.val d) ρ') := by first | rfl | (unfold isMem; rfl)
theorem opdR_slot {i Q} : (opdR (.slot i) ρ' Q) = (Q (.slot i) ρ') := by first | rfl | (unfold isMem; rfl)
theorem opdR_own {c Q} : (opdR (.own c) ρ' Q) = ((c.fz = true ∧ Q (.val c.d) ρ')) := by first | rfl | (unfold isMem; rfl)
theorem frzR_val {d Q} : (frzR (.val d) ρ' Q) = (Q (.val d) ρ') := by first | rfl | (unfold isMem; rfl)
theorem frzR_own {c Q} : (frzR (.own c) ρ' Q) = ((c.fz = true ∧ Q (.val c.d) ρ')) := by first | rfl | (unfold isMem; rfl)
theorem slotW_val {d Q} : (slotW (.val d) ρ' Q) = (Q (.val d) ρ') := by first | rfl | (unfold isMem; rfl)
theorem slotW_own {c Q} : (slotW (.own c) ρ' Q) = (Q (.own c) ρ') := by first | rfl | (unfold isMem; rfl)
theorem retW_val {d Q} : (retW (.val d) ρ' Q) = (Q (.val d) ρ') := by first | rfl | (unfold isMem; rfl)
theorem retW_own {c Q} : (retW (.own c) ρ' Q) = (Q (.own c) ρ') := by first | rfl | (unfold isMem; rfl)
theorem rdR_val {d} : (rdR ρ' (.val d)) = (d) := by first | rfl | (unfold isMem; rfl)
theorem rdR_own {c} : (rdR ρ' (.own c)) = (c.d) := by first | rfl | (unfold isMem; rfl)
theorem rdR_slot {i} : (rdR ρ' (.slot i)) = ((ρ'.getD i .non).rd) := by first | rfl | (unfold isMem; rfl)
theorem rd_val {d} : (Slot.rd (.val d)) = (d) := by first | rfl | (unfold isMem; rfl)
theorem rd_own {c} : (Slot.rd (.own c)) = (c.d) := by first | rfl | (unfold isMem; rfl)
theorem slR_val {d} : (slR ρ' (.val d)) = (.val d) := by first | rfl | (unfold isMem; rfl)
theorem slR_slot {i} : (slR ρ' (.slot i)) = (ρ'.getD i .non) := by first | rfl | (unfold isMem; rfl)
theorem d_lst {xs} : (Cell.d (.lst xs)) = (.lst xs) := by first | rfl | (unfold isMem; rfl)
theorem d_dK {xs} : (Cell.d (.dK xs)) = (.dK xs) := by first | rfl | (unfold isMem; rfl)
theorem d_dT {xs} : (Cell.d (.dT xs)) = (.dT xs) := by first | rfl | (unfold isMem; rfl)
theorem d_obj {c fs} : (Cell.d (.obj c fs)) = (.obj c fs) := by first | rfl | (unfold isMem; rfl)
theorem fz_lst {xs} : (Cell.fz (.lst xs)) = (true) := by first | rfl | (unfold isMem; rfl)
theorem fz_dK {xs} : (Cell.fz (.dK xs)) = (true) := by first | rfl | (unfold isMem; rfl)
theorem fz_dT {xs} : (Cell.fz (.dT xs)) = (true) := by first | rfl | (unfold isMem; rfl)
theorem fz_obj {c fs} : (Cell.fz (.obj c fs)) = (true) := by first | rfl | (unfold isMem; rfl)
theorem bin_add {i j Q} : (binW .Add (.int i) (.int j) Q) = (Q (.val (.int (i + j)))) := by first | rfl | (unfold isMem; rfl)
theorem bin_sub {i j Q} : (binW .Sub (.int i) (.int j) Q) = (Q (.val (.int (i - j)))) := by first | rfl | (unfold isMem; rfl)
theorem bin_mul {i j Q} : (binW .Mult (.int i) (.int j) Q) = ((((-(2 ^ 64) < i ∧ i < 2 ^ 64) ∨ (-(2 ^ 64) < j ∧ j < 2 ^ 64)) ∧ Q (.val (.int (i * j))))) := by first | rfl | (unfold isMem; rfl)
theorem bin_div {i j Q} : (binW .FloorDiv (.int i) (.int j) Q) = (((j ≠ 0 ∧ j.natAbs < 2 ^ 9000) ∧ Q (.val (.int (i.fdiv j))))) := by first | rfl | (unfold isMem; rfl)
theorem bin_mod {i j Q} : (binW .Mod (.int i) (.int j) Q) = ((j ≠ 0 ∧ Q (.val (.int (i.fmod j))))) := by first | rfl | (unfold isMem; rfl)
theorem bin_pow {i j Q} : (binW .Pow (.int i) (.int j) Q) = (((0 ≤ j ∧ j ≤ 1000000 ∧ i.natAbs < 2 ^ 64) ∧ Q (.val (.int (i ^ j.toNat))))) := by first | rfl | (unfold isMem; rfl)
theorem bin_adS {a b Q} : (binW .Add (.str a) (.str b) Q) = ((a.length + b.length ≤ big ∧ Q (.val (.str (a ++ b))))) := by first | rfl | (unfold isMem; rfl)
theorem bin_adL {a b Q} : (binW .Add (.lst a) (.lst b) Q) = ((a.length + b.length ≤ big ∧ Q (.own (.lst (a ++ b))))) := by first | rfl | (unfold isMem; rfl)
theorem bin_adT {a b Q} : (binW .Add (.tup a) (.tup b) Q) = ((a.length + b.length ≤ big ∧ Q (.val (.tup (a ++ b))))) := by first | rfl | (unfold isMem; rfl)
theorem cmp_eqq {x y Q} : (cmpW .Eq x y Q) = (((x.plain = true ∧ y.plain = true ∧ min x.dep y.dep ≤ 60) ∧ Q (D.eqv x y))) := by first | rfl | (unfold isMem; rfl)
theorem cmp_neq {x y Q} : (cmpW .NotEq x y Q) = (((x.plain = true ∧ y.plain = true ∧ min x.dep y.dep ≤ 60) ∧ Q (!D.eqv x y))) := by first | rfl | (unfold isMem; rfl)
theorem cmp_lt {i j Q} : (cmpW .Lt (.int i) (.int j) Q) = (Q (decide (i < j))) := by first | rfl | (unfold isMem; rfl)
theorem cmp_le {i j Q} : (cmpW .LtE (.int i) (.int j) Q) = (Q (decide (i ≤ j))) := by first | rfl | (unfold isMem; rfl)
theorem cmp_gt {i j Q} : (cmpW .Gt (.int i) (.int j) Q) = (Q (decide (j < i))) := by first | rfl | (unfold isMem; rfl)
theorem cmp_ge {i j Q} : (cmpW .GtE (.int i) (.int j) Q) = (Q (decide (j ≤ i))) := by first | rfl | (unfold isMem; rfl)
theorem cmp_is {x Q} : (cmpW .Is x .non Q) = ((x.bad = false ∧ Q x.isNon)) := by first | rfl | (unfold isMem; rfl)
theorem cmp_isn {x Q} : (cmpW .IsNot x .non Q) = ((x.bad = false ∧ Q (!x.isNon))) := by first | rfl | (unfold isMem; rfl)
theorem cmp_in {x y Q} : (cmpW .In x y Q) = (isMem x y Q) := by first | rfl | (unfold isMem; rfl)
theorem cmp_nin {x y Q} : (cmpW .NotIn x y Q) = (isMem x y fun b => Q (!b)) := by first | rfl | (unfold isMem; rfl)
theorem mem_lst {x ys Q} : (isMem x (.lst ys) Q) = (((x.plain = true ∧ D.plains ys = true ∧ x.dep ≤ 60 ∧ D.deps ys ≤ 60) ∧ Q (inG x ys))) := by first | rfl | (unfold isMem; rfl)
theorem mem_tup {x ys Q} : (isMem x (.tup ys) Q) = (((x.flat = true ∧ ys.all D.flat = true) ∧ Q (inG x ys))) := by first | rfl | (unfold isMem; rfl)
theorem mem_dK {x kvs Q} : (isMem (.str x) (.dK kvs) Q) = (Q (valG kvs (.inr x)).isSome) := by first | rfl | (unfold isMem; rfl)
theorem mem_dKi {x kvs Q} : (isMem (.int x) (.dK kvs) Q) = (Q (valG kvs (.inl x)).isSome) := by first | rfl | (unfold isMem; rfl)
theorem mem_dT2 {a b kvs Q} : (isMem (.tup [.str a, .str b]) (.dT kvs) Q) = (Q (valG kvs [.inr a, .inr b]).isSome) := by first | rfl | (unfold isMem; rfl)
theorem mem_str {c z Q} : (isMem (.str ⟨#[c]⟩) (.str z) Q) = (Q (decide (c ∈ z.cps.toList))) := by first | rfl | (unfold isMem; rfl)
theorem tru_bl {b Q} : (truW (.bl b) Q) = (Q b) := by first | rfl | (unfold isMem; rfl)
theorem sub_lst {xs j Q} : (subW (.lst xs) (.int j) Q) = (match atG xs j with | some d => Q d | none => False) := by first | rfl | (unfold isMem; rfl)
theorem sub_tup {xs j Q} : (subW (.tup xs) (.int j) Q) = (match atG xs j with | some d => Q d | none => False) := by first | rfl | (unfold isMem; rfl)
theorem sub_dK {kvs k Q} : (subW (.dK kvs) (.str k) Q) = (match valG kvs (.inr k) with | some d => Q d | none => False) := by first | rfl | (unfold isMem; rfl)
theorem sub_dKi {kvs k Q} : (subW (.dK kvs) (.int k) Q) = (match valG kvs (.inl k) with | some d => Q d | none => False) := by first | rfl | (unfold isMem; rfl)
theorem sub_dT2 {kvs a b Q} : (subW (.dT kvs) (.tup [.str a, .str b]) Q) = (match valG kvs [.inr a, .inr b] with | some d => Q d | none => False) := by first | rfl | (unfold isMem; rfl)
theorem att_obj {c fs f Q} : (attW (.obj c fs) f Q) = (match valG fs f with | some d => Q d | none => False) := by first | rfl | (unfold isMem; rfl)
theorem slc_lst {xs lo hi Q} : (slcW (.lst xs) lo hi Q) = (Q (.own (.lst (cutG xs lo hi)))) := by first | rfl | (unfold isMem; rfl)
theorem slc_str {z lo hi Q} : (slcW (.str z) lo hi Q) = ((z.length ≤ big ∧ Q (.val (.str (cutStr z lo hi))))) := by first | rfl | (unfold isMem; rfl)
theorem slc_tup {xs lo hi Q} : (slcW (.tup xs) lo hi Q) = (Q (.val (.tup (cutG xs lo hi)))) := by first | rfl | (unfold isMem; rfl)
theorem rvs_lst {xs Q} : (rvsW (.lst xs) Q) = (Q (.own (.lst xs.reverse))) := by first | rfl | (unfold isMem; rfl)
theorem get2_T2 {kvs a b z Q} : (mthW .get2 (.dT kvs) [.tup [.str a, .str b], z] Q) = ((z.flat = true ∧ Q (.val ((valG kvs [.inr a, .inr b]).getD z)))) := by first | rfl | (unfold isMem; rfl)
theorem get1_T2 {kvs a b Q} : (mthW .get1 (.dT kvs) [.tup [.str a, .str b]] Q) = (Q (.val ((valG kvs [.inr a, .inr b]).getD .non))) := by first | rfl | (unfold isMem; rfl)
theorem get2_K {kvs a z Q} : (mthW .get2 (.dK kvs) [.str a, z] Q) = ((z.flat = true ∧ Q (.val ((valG kvs (.inr a)).getD z)))) := by first | rfl | (unfold isMem; rfl)
theorem get1_K {kvs a Q} : (mthW .get1 (.dK kvs) [.str a] Q) = (Q (.val ((valG kvs (.inr a)).getD .non))) := by first | rfl | (unfold isMem; rfl)
theorem blt_len {ys Q} : (bltW .len [.lst ys] Q) = (Q (.val (.int ys.length))) := by first | rfl | (unfold isMem; rfl)
theorem blt_lenT {ys Q} : (bltW .len [.tup ys] Q) = (Q (.val (.int ys.length))) := by first | rfl | (unfold isMem; rfl)
theorem blt_lenS {z Q} : (bltW .len [.str z] Q) = ((z.length ≤ big ∧ Q (.val (.int z.length)))) := by first | rfl | (unfold isMem; rfl)
theorem blt_lenK {z Q} : (bltW .len [.dK z] Q) = (Q (.val (.int z.length))) := by first | rfl | (unfold isMem; rfl)
theorem blt_abs {i Q} : (bltW .abs [.int i] Q) = (Q (.val (.int (if i < 0 then -i else i)))) := by first | rfl | (unfold isMem; rfl)
theorem blt_max2 {i j Q} : (bltW .max2 [.int i, .int j] Q) = (Q (.val (.int (if j > i then j else i)))) := by first | rfl | (unfold isMem; rfl)
theorem blt_min2 {i j Q} : (bltW .min2 [.int i, .int j] Q) = (Q (.val (.int (if j < i then j else i)))) := by first | rfl | (unfold isMem; rfl)
theorem blt_int {i Q} : (bltW .int1 [.int i] Q) = (Q (.val (.int i))) := by first | rfl | (unfold isMem; rfl)
theorem blt_intB {b Q} : (bltW .int1 [.bl b] Q) = (Q (.val (.int (if b then 1 else 0)))) := by first | rfl | (unfold isMem; rfl)
theorem blt_list {ds Q} : (bltW .list1 [.lst ds] Q) = (Q (.own (.lst ds))) := by first | rfl | (unfold isMem; rfl)
theorem blt_listT {ds Q} : (bltW .list1 [.tup ds] Q) = (Q (.own (.lst ds))) := by first | rfl | (unfold isMem; rfl)
theorem blt_listS {z Q} : (bltW .list1 [.str z] Q) = ((z.length ≤ big ∧ Q (.own (.lst (z.cps.toList.map fun c => .str ⟨#[c]⟩))))) := by first | rfl | (unfold isMem; rfl)
theorem blt_listK {kvs Q} : (bltW .list1 [.dK kvs] Q) = (Q (.own (.lst (kvs.map fun kv => kD kv.1)))) := by first | rfl | (unfold isMem; rfl)
theorem blt_listDT {kvs Q} : (bltW .list1 [.dT kvs] Q) = (Q (.own (.lst (kvs.map fun kv => .tup (kv.1.map kD))))) := by first | rfl | (unfold isMem; rfl)
theorem blt_tup {ds Q} : (bltW .tuple1 [.lst ds] Q) = (Q (.val (.tup ds))) := by first | rfl | (unfold isMem; rfl)
theorem blt_tupT {ds Q} : (bltW .tuple1 [.tup ds] Q) = (Q (.val (.tup ds))) := by first | rfl | (unfold isMem; rfl)
theorem blt_dict {kvs Q} : (bltW .dict1 [.dK kvs] Q) = (Q (.own (.dK kvs))) := by first | rfl | (unfold isMem; rfl)
theorem blt_max {ds Q} : (bltW .max1 [.lst ds] Q) = (match intsOf ds with | some (n :: ns) => Q (.val (.int (maxL n ns))) | _ => False) := by first | rfl | (unfold isMem; rfl)
theorem blt_min {ds Q} : (bltW .min1 [.lst ds] Q) = (match intsOf ds with | some (n :: ns) => Q (.val (.int (minL n ns))) | _ => False) := by first | rfl | (unfold isMem; rfl)
theorem blt_sum {ds Q} : (bltW .sum1 [.lst ds] Q) = (match intsOf ds with | some ns => Q (.val (.int ns.sum)) | none => False) := by first | rfl | (unfold isMem; rfl)
theorem blt_all {ds Q} : (bltW .all1 [.lst ds] Q) = (match blsOf ds with | some bs => Q (.val (.bl (bs.all id))) | none => False) := by first | rfl | (unfold isMem; rfl)
theorem blt_any {ds Q} : (bltW .any1 [.lst ds] Q) = (match blsOf ds with | some bs => Q (.val (.bl (bs.any id))) | none => False) := by first | rfl | (unfold isMem; rfl)
theorem items_lst {xs} : (D.items (.lst xs)) = (some xs) := by first | rfl | (unfold isMem; rfl)
theorem items_tup {xs} : (D.items (.tup xs)) = (some xs) := by first | rfl | (unfold isMem; rfl)
theorem items_str {x} : (D.items (.str x)) = (if x.length ≤ big then some (x.cps.toList.map fun c => .str ⟨#[c]⟩) else none) := by first | rfl | (unfold isMem; rfl)
theorem items_dK {kvs} : (D.items (.dK kvs)) = (some (kvs.map fun kv => kD kv.1)) := by first | rfl | (unfold isMem; rfl)
theorem items_dT {kvs} : (D.items (.dT kvs)) = (some (kvs.map fun kv => .tup (kv.1.map kD))) := by first | rfl | (unfold isMem; rfl)
theorem mu_app {ys x Q} : (muW .append ys [x] Q) = ((ys.length < big ∧ Q .non (ys ++ [x]))) := by first | rfl | (unfold isMem; rfl)
theorem mu_ins {ys i x Q} : (muW .insert ys [.int i, x] Q) = (((ys.length < big ∧ 0 ≤ i ∧ i ≤ ys.length) ∧ Q .non (ys.take i.toNat ++ [x] ++ ys.drop i.toNat))) := by first | rfl | (unfold isMem; rfl)
theorem mu_clr {ys Q} : (muW .clear ys [] Q) = (Q .non []) := by first | rfl | (unfold isMem; rfl)
theorem mu_rev {ys Q} : (muW .reverse ys [] Q) = (Q .non ys.reverse) := by first | rfl | (unfold isMem; rfl)
theorem putD_K {kvs k v Q} : (putD (.dK kvs) (.str k) v Q) = ((kvs.length < big ∧ Q (.dK (putG kvs (.inr k) v)))) := by first | rfl | (unfold isMem; rfl)
theorem putD_Ki {kvs k v Q} : (putD (.dK kvs) (.int k) v Q) = ((kvs.length < big ∧ Q (.dK (putG kvs (.inl k) v)))) := by first | rfl | (unfold isMem; rfl)
theorem putD_T2 {kvs a b v Q} : (putD (.dT kvs) (.tup [.str a, .str b]) v Q) = ((kvs.length < big ∧ Q (.dT (putG kvs [.inr a, .inr b] v)))) := by first | rfl | (unfold isMem; rfl)
theorem putC_l {xs i v Q} : (putC (.lst xs) (.int i) v Q) = (match ixG xs.length i with | some j => Q (.lst (xs.set j v)) | none => False) := by first | rfl | (unfold isMem; rfl)
theorem putC_K {kvs k v Q} : (putC (.dK kvs) k v Q) = (putD (.dK kvs) k v Q) := by first | rfl | (unfold isMem; rfl)
theorem putC_T {kvs k v Q} : (putC (.dT kvs) k v Q) = (putD (.dT kvs) k v Q) := by first | rfl | (unfold isMem; rfl)
theorem bindT_name {i d} : (bindT (.name i) d (s :: ρ)) = (if i < (s :: ρ).length then some ((s :: ρ).set i (.val d)) else none) := by first | rfl | (unfold isMem; rfl)
theorem bindT_tup {ts ds} : (bindT (.tup ts) (.tup ds) (s :: ρ)) = (bindTs ts ds (s :: ρ)) := by first | rfl | (unfold isMem; rfl)
theorem bindTs_nil : (bindTs [] [] (s :: ρ)) = (some (s :: ρ)) := by first | rfl | (unfold isMem; rfl)
theorem bindTs_cons {t ts d ds} : (bindTs (t :: ts) (d :: ds) (s :: ρ)) = (match bindT t d (s :: ρ) with | some ρ1 => bindTs ts ds ρ1 | none => none) := by first | rfl | (unfold isMem; rfl)
theorem lcF_eq {tg vs wf we d K} : (lcF tg vs wf we d (s :: ρ) K) = (match bindT tg d (s :: ρ) with | some ρ3 => wf ρ3 fun b ρ4 => if b = true then we ρ4 (fun r ρ5 => frzR r ρ5 fun y ρ6 => K (some (rdR ρ6 y)) (wipeE ρ6 vs)) (fun _ _ => False) else K none (wipeE ρ4 vs) | none => False) := by first | rfl | (unfold isMem; rfl)
theorem dcF_eq {tg vs wf bd d c K} : (dcF tg vs wf bd d (s :: ρ) c K) = (match bindT tg d (s :: ρ) with | some ρ1 => wf ρ1 fun b ρ2 => if b = true then bd ρ2 c (fun c1 ρ3 => K c1 (wipeE ρ3 vs)) else K c (wipeE ρ2 vs) | none => False) := by first | rfl | (unfold isMem; rfl)
theorem bdPut_eq {wk wv c K} : (bdPut wk wv (s :: ρ) c K) = (wk (s :: ρ) (fun r ρ1 => frzR r ρ1 fun x ρ2 => wv ρ2 (fun r ρ3 => frzR r ρ3 fun y ρ4 => putD c (rdR ρ2 x) (rdR ρ4 y) fun c1 => K c1 ρ4) fun _ _ => False) fun _ _ => False) := by first | rfl | (unfold isMem; rfl)
theorem bdApp_eq {we acc K} : (bdApp we (s :: ρ) (.lst acc) K) = (we (s :: ρ) (fun r ρ1 => frzR r ρ1 fun x ρ2 => acc.length < big ∧ K (.lst (acc ++ [rdR ρ2 x])) ρ2) fun _ _ => False) := by first | rfl | (unfold isMem; rfl)
theorem wipeE_nil : (wipeE (s :: ρ) []) = (s :: ρ) := by first | rfl | (unfold isMem; rfl)
theorem wipeE_cons {v vs} : (wipeE (s :: ρ) (v :: vs)) = ((wipeE (s :: ρ) vs).set v .non) := by first | rfl | (unfold isMem; rfl)
theorem back1_nil {ss ρ1} : (back1 [] ss ρ1) = (ρ1) := by first | rfl | (unfold isMem; rfl)
theorem back1_val {d rs t ss ρ1} : (back1 (.val d :: rs) (t :: ss) ρ1) = (back1 rs ss ρ1) := by first | rfl | (unfold isMem; rfl)
theorem back1_slot {i rs t ss ρ1} : (back1 (.slot i :: rs) (t :: ss) ρ1) = (back1 rs ss (ρ1.set i t)) := by first | rfl | (unfold isMem; rfl)
theorem rcv_get1 : (rcvOk .get1 3) = (true) := by first | rfl | (unfold isMem; rfl)
theorem rcv_get2 : (rcvOk .get2 3) = (true) := by first | rfl | (unfold isMem; rfl)
theorem rcv_index : (rcvOk .index 1) = (true) := by first | rfl | (unfold isMem; rfl)
theorem rcv_join : (rcvOk .join 4) = (true) := by first | rfl | (unfold isMem; rfl)
theorem kind_lst {xs} : (D.kind (.lst xs)) = (1) := by first | rfl | (unfold isMem; rfl)
theorem kind_tup {xs} : (D.kind (.tup xs)) = (2) := by first | rfl | (unfold isMem; rfl)
theorem kind_dK {xs} : (D.kind (.dK xs)) = (3) := by first | rfl | (unfold isMem; rfl)
theorem kind_dT {xs} : (D.kind (.dT xs)) = (3) := by first | rfl | (unfold isMem; rfl)
theorem kind_str {xs} : (D.kind (.str xs)) = (4) := by first | rfl | (unfold isMem; rfl)
theorem callW_eq {f rs Q E} : (callW Γ f rs (s :: ρ) Q E) = (((slotsIn rs).Nodup ∧ Γ f (rs.map (slR (s :: ρ))) (fun r ss => Q r (back1 rs ss (s :: ρ))) fun x ss => E x (back1 rs ss (s :: ρ)))) := by first | rfl | (unfold isMem; rfl)
theorem pairsG_nil : (pairsG []) = (some []) := by first | rfl | (unfold isMem; rfl)
theorem flat_int {i} : (D.flat (.int i)) = (true) := by first | rfl | (unfold isMem; rfl)
theorem flat_str {x} : (D.flat (.str x)) = (true) := by first | rfl | (unfold isMem; rfl)
theorem flat_non : (D.flat .non) = (true) := by first | rfl | (unfold isMem; rfl)
theorem flat_bl {b} : (D.flat (.bl b)) = (true) := by first | rfl | (unfold isMem; rfl)
theorem plain_int {i} : (D.plain (.int i)) = (true) := by first | rfl | (unfold isMem; rfl)
theorem plain_str {x} : (D.plain (.str x)) = (true) := by first | rfl | (unfold isMem; rfl)
theorem plain_non : (D.plain .non) = (true) := by first | rfl | (unfold isMem; rfl)
theorem plain_bl {b} : (D.plain (.bl b)) = (true) := by first | rfl | (unfold isMem; rfl)
theorem plain_lst {xs} : (D.plain (.lst xs)) = (D.plains xs) := by first | rfl | (unfold isMem; rfl)
theorem plain_tup {xs} : (D.plain (.tup xs)) = (D.plains xs) := by first | rfl | (unfold isMem; rfl)
theorem dep_int {i} : (D.dep (.int i)) = (0) := by first | rfl | (unfold isMem; rfl)
theorem dep_str {x} : (D.dep (.str x)) = (0) := by first | rfl | (unfold isMem; rfl)
theorem dep_non : (D.dep .non) = (0) := by first | rfl | (unfold isMem; rfl)
theorem dep_bl {b} : (D.dep (.bl b)) = (0) := by first | rfl | (unfold isMem; rfl)
theorem dep_lst {xs} : (D.dep (.lst xs)) = (D.deps xs + 1) := by first | rfl | (unfold isMem; rfl)
theorem dep_tup {xs} : (D.dep (.tup xs)) = (D.deps xs + 1) := by first | rfl | (unfold isMem; rfl)
theorem eqv_int {i j} : (D.eqv (.int i) (.int j)) = ((i == j)) := by first | rfl | (unfold isMem; rfl)
theorem eqv_str {i j} : (D.eqv (.str i) (.str j)) = ((i == j)) := by first | rfl | (unfold isMem; rfl)
theorem eqv_bl {i j} : (D.eqv (.bl i) (.bl j)) = ((i == j)) := by first | rfl | (unfold isMem; rfl)
theorem eqv_lst {xs ys} : (D.eqv (.lst xs) (.lst ys)) = (D.eqvs xs ys) := by first | rfl | (unfold isMem; rfl)
theorem eqv_tup {xs ys} : (D.eqv (.tup xs) (.tup ys)) = (D.eqvs xs ys) := by first | rfl | (unfold isMem; rfl)
theorem eqv_ftf {xs ys} : (D.eqv (.ftp xs) (.ftp ys)) = (D.eqvs xs ys) := by first | rfl | (unfold isMem; rfl)
theorem eqv_ftt {xs ys} : (D.eqv (.ftp xs) (.tup ys)) = (D.eqvs xs ys) := by first | rfl | (unfold isMem; rfl)
theorem eqv_ttf {xs ys} : (D.eqv (.tup xs) (.ftp ys)) = (D.eqvs xs ys) := by first | rfl | (unfold isMem; rfl)
theorem plain_ftp {xs} : (D.plain (.ftp xs)) = (D.plains xs) := by first | rfl | (unfold isMem; rfl)
theorem dep_ftp {xs} : (D.dep (.ftp xs)) = (D.deps xs + 1) := by first | rfl | (unfold isMem; rfl)
theorem mem_ftp {x ys Q} : (isMem x (.ftp ys) Q) = (((x.flat = true ∧ ys.all D.flat = true) ∧ Q (inG x ys))) := by first | rfl | (unfold isMem; rfl)
theorem sub_ftp {xs j Q} : (subW (.ftp xs) (.int j) Q) = (match atG xs j with | some d => Q d | none => False) := by first | rfl | (unfold isMem; rfl)
theorem blt_lenF {ys Q} : (bltW .len [.ftp ys] Q) = (Q (.val (.int ys.length))) := by first | rfl | (unfold isMem; rfl)
theorem blt_listF {ds Q} : (bltW .list1 [.ftp ds] Q) = (Q (.own (.lst ds))) := by first | rfl | (unfold isMem; rfl)
theorem blt_tupF {ds Q} : (bltW .tuple1 [.ftp ds] Q) = (Q (.val (.ftp ds))) := by first | rfl | (unfold isMem; rfl)
theorem blt_ftup {ds Q} : (bltW .ftuple1 [.lst ds] Q) = (Q (.val (.ftp ds))) := by first | rfl | (unfold isMem; rfl)
theorem items_ftp {xs} : (D.items (.ftp xs)) = (some xs) := by first | rfl | (unfold isMem; rfl)
theorem kind_ftp {xs} : (D.kind (.ftp xs)) = (5) := by first | rfl | (unfold isMem; rfl)
theorem rcv_indexF : (rcvOk .index 5) = (true) := by first | rfl | (unfold isMem; rfl)
theorem idx_ftp {ys z Q} : (mthW .index (.ftp ys) [.str z] Q) = (match strsOf ys with | some ss => (match ss.findIdx? (fun s => decide (s = z)) with | some j => Q (.val (.int j)) | none => False) | none => False) := by first | rfl | (unfold isMem; rfl)
theorem dunR_neg {z Q} : (dunR .neg z Q) = (Q z) := by first | rfl | (unfold isMem; rfl)
theorem dunR_len {n Q} : (dunR .len (.val (.int n)) Q) = (((0 ≤ n ∧ n < 2 ^ 62) ∧ Q (.val (.int n)))) := by first | rfl | (unfold isMem; rfl)
theorem dunR_in {b Q} : (dunR .in_ (.val (.bl b)) Q) = (Q (.val (.bl b))) := by first | rfl | (unfold isMem; rfl)
theorem dunR_nin {b Q} : (dunR .nin (.val (.bl b)) Q) = (Q (.val (.bl (!b)))) := by first | rfl | (unfold isMem; rfl)
theorem dunR_eq {b Q} : (dunR .eq (.val (.bl b)) Q) = (Q (.val (.bl b))) := by first | rfl | (unfold isMem; rfl)
theorem dunR_and {c fs Q} : (dunR .band (.own (.obj c fs)) Q) = (Q (.own (.obj c fs))) := by first | rfl | (unfold isMem; rfl)
theorem dunS_in {x y} : (dunS .in_ x y) = (y) := by first | rfl | (unfold isMem; rfl)
theorem dunS_nin {x y} : (dunS .nin x y) = (y) := by first | rfl | (unfold isMem; rfl)
theorem dunS_eq {x y} : (dunS .eq x y) = (x) := by first | rfl | (unfold isMem; rfl)
theorem dunS_and {x y} : (dunS .band x y) = (x) := by first | rfl | (unfold isMem; rfl)
theorem dunA_in {x y} : (dunA .in_ x y) = ([y, x]) := by first | rfl | (unfold isMem; rfl)
theorem dunA_nin {x y} : (dunA .nin x y) = ([y, x]) := by first | rfl | (unfold isMem; rfl)
theorem dunA_eq {x y} : (dunA .eq x y) = ([x, y]) := by first | rfl | (unfold isMem; rfl)
theorem dunA_and {x y} : (dunA .band x y) = ([x, y]) := by first | rfl | (unfold isMem; rfl)
theorem dunO_in {c d} : (dunO .in_ c d) = (True) := by first | rfl | (unfold isMem; rfl)
theorem dunO_nin {c d} : (dunO .nin c d) = (True) := by first | rfl | (unfold isMem; rfl)
theorem dunO_eqo {c c2 fs} : (dunO .eq c (.obj c2 fs)) = ((c2 = c)) := by first | rfl | (unfold isMem; rfl)
theorem dunO_ando {c c2 fs} : (dunO .band c (.obj c2 fs)) = ((c2 = c)) := by first | rfl | (unfold isMem; rfl)
end
end Mi
namespace Mi
open PySem
/-- 0: order values given name value low gap -/
def ir_raised : List IS :=
 [.asg (.name 2) (.frz (.dcp false (.tup [(.name 3), (.name 4)]) (.zip (.frz (.att (.var 0) "fields")) (.frz (.var 1))) none (.var 3) (.var 4) [3, 4])),
  .ret (.blt .tuple1 [(.lcp (.name 3) (.it (.att (.var 0) "fields")) none (.blt .max1 [(.bin .Add (.lst [(.sub (.var 2) (.var 3))]) (.lcp (.tup [(.name 5), (.name 6)]) (.it (.sub (.att (.var 0) "under") (.var 3))) none (.bin .Add (.sub (.var 2) (.var 5)) (.var 6)) [5, 6]))]) [3])])]
/-- 1: order values given name value high gap -/
def ir_lowered : List IS :=
 [.asg (.name 2) (.frz (.dcp false (.tup [(.name 3), (.name 4)]) (.zip (.frz (.att (.var 0) "fields")) (.frz (.var 1))) none (.var 3) (.var 4) [3, 4])),
  .ret (.blt .tuple1 [(.lcp (.name 3) (.it (.att (.var 0) "fields")) none (.blt .min1 [(.bin .Add (.lst [(.sub (.var 2) (.var 3))]) (.lcp (.tup [(.name 5), (.name 6)]) (.it (.sub (.att (.var 0) "over") (.var 3))) none (.bin .Sub (.sub (.var 2) (.var 5)) (.var 6)) [5, 6]))]) [3])])]
/-- 3: thing letter -/
def ir_is_name : List IS :=
 [.ite (.or (.not (.isi (.var 0) .str)) (.not (.chn .LtE .LtE (.con (.int 1)) (.blt .len [(.var 0)]) (.con (.int 8))))) [.ret (.con (.bl false))] [],
  .ret (.blt .all1 [(.lcp (.name 1) (.it (.var 0)) none (.cmp .In (.var 1) (.con (.str "abcdefghijklmnopqrstuvwxyz"))) [1])])]
/-- 4: thing -/
def ir_is_integer : List IS :=
 [.ret (.and (.isi (.var 0) .int) (.not (.isi (.var 0) .bool)))]
/-- 5: fields gaps limit before after ways low high gap name one other pair -/
def ir_widened : List IS :=
 [.asg (.tup [(.name 6), (.name 7), (.name 8)]) (.var 2),
  .asg (.name 3) (.frz (.dcp false (.name 9) (.it (.var 0)) (some (.or (.cmp .Eq (.var 9) (.var 6)) (.cmp .In (.tup [(.var 9), (.var 6)]) (.var 1)))) (.var 9) (.mth .get2 (.var 1) [(.tup [(.var 9), (.var 6)]), (.con (.int 0))]) [9])),
  .asg (.name 4) (.frz (.dcp false (.name 9) (.it (.var 0)) (some (.or (.cmp .Eq (.var 9) (.var 7)) (.cmp .In (.tup [(.var 7), (.var 9)]) (.var 1)))) (.var 9) (.mth .get2 (.var 1) [(.tup [(.var 7), (.var 9)]), (.con (.int 0))]) [9])),
  .asg (.name 5) (.frz (.dc2 true (.name 10) (.it (.var 3)) none (.name 11) (.it (.var 4)) none (.tup [(.var 10), (.var 11)]) (.bin .Add (.bin .Add (.sub (.var 3) (.var 10)) (.var 8)) (.sub (.var 4) (.var 11))) [10, 11] [11])),
  .ret (.dcp true (.name 12) (.it (.bin .Add (.blt .list1 [(.var 1)]) (.blt .list1 [(.var 5)]))) none (.var 12) (.blt .max2 [(.mth .get2 (.var 1) [(.var 12), (.con (.int 0))]), (.mth .get2 (.var 5) [(.var 12), (.con (.int 0))])]) [12])]
/-- 6: fields gaps limit low high gap -/
def ir_closes_ring : List IS :=
 [.asg (.tup [(.name 3), (.name 4), (.name 5)]) (.var 2),
  .ret (.or (.cmp .NotIn (.var 3) (.var 0)) (.or (.cmp .NotIn (.var 4) (.var 0)) (.or (.cmp .Eq (.var 3) (.var 4)) (.cmp .In (.tup [(.var 4), (.var 3)]) (.var 1)))))]
/-- 7: fields limits gaps at limit -/
def ir_gaps_of : List IS :=
 [.asg (.name 2) (.frz (.dct true [])),
  .for (.tup [(.name 3), (.name 4)]) (.enum (.frz (.var 1))) [.ite (.call 6 [(.var 0), (.var 2), (.var 4)] []) [.nev] [],
  .asg (.name 2) (.frz (.call 5 [(.var 0), (.var 2), (.var 4)] []))],
  .ret (.var 2)]
/-- 100: self fields limits names at name low high -/
def ir_Order_init : List IS :=
 [.asg (.name 3) (.frz (.blt .list1 [(.var 1)])),
  .for (.tup [(.name 4), (.name 5)]) (.enum (.frz (.var 3))) [.ite (.or (.not (.call 3 [(.var 5)] [])) (.cmp .In (.var 5) (.slc (.var 3) none (some (.var 4))))) [.nev] []],
  .sta 0 0 "fields" (.blt .ftuple1 [(.var 3)]),
  .sta 0 0 "gaps" (.call 7 [(.var 3), (.blt .list1 [(.var 2)])] []),
  .sta 0 0 "under" (.dcp false (.name 5) (.it (.var 3)) none (.var 5) (.lcp (.name 6) (.it (.var 3)) (some (.cmp .In (.tup [(.var 6), (.var 5)]) (.att (.var 0) "gaps"))) (.tup [(.var 6), (.sub (.att (.var 0) "gaps") (.tup [(.var 6), (.var 5)]))]) [6]) [5]),
  .sta 0 0 "over" (.dcp false (.name 5) (.it (.var 3)) none (.var 5) (.lcp (.name 7) (.it (.var 3)) (some (.cmp .In (.tup [(.var 5), (.var 7)]) (.att (.var 0) "gaps"))) (.tup [(.var 7), (.sub (.att (.var 0) "gaps") (.tup [(.var 5), (.var 7)]))]) [7]) [5])]
/-- 101: self -/
def ir_Order_len : List IS :=
 [.ret (.blt .len [(.att (.var 0) "fields")])]
/-- 102: self other -/
def ir_Order_eq : List IS :=
 [.ret (.and (.isi (.var 1) (.own 0)) (.and (.cmp .Eq (.att (.var 0) "fields") (.att (.var 1) "fields")) (.cmp .Eq (.att (.var 0) "gaps") (.att (.var 1) "gaps"))))]
/-- 103: self values found name value gap low high -/
def ir_Order_contains : List IS :=
 [.ite (.or (.not (.isi (.var 1) .tuple)) (.cmp .NotEq (.blt .len [(.var 1)]) (.blt .len [(.att (.var 0) "fields")]))) [.ret (.con (.bl false))] [],
  .ite (.not (.blt .all1 [(.lcp (.name 4) (.it (.var 1)) none (.call 4 [(.var 4)] []) [4])])) [.ret (.con (.bl false))] [],
  .asg (.name 2) (.frz (.dcp false (.tup [(.name 3), (.name 4)]) (.zip (.frz (.att (.var 0) "fields")) (.frz (.var 1))) none (.var 3) (.var 4) [3, 4])),
  .ret (.blt .all1 [(.lcp (.tup [(.tup [(.name 6), (.name 7)]), (.name 5)]) (.items (.att (.var 0) "gaps")) none (.cmp .LtE (.bin .Add (.sub (.var 2) (.var 6)) (.var 5)) (.sub (.var 2) (.var 7))) [6, 7, 5])])]
/-- 104: self other -/
def ir_Order_and : List IS :=
 [.ite (.cmp .NotEq (.att (.var 0) "fields") (.att (.var 1) "fields")) [.nev] [],
  .nev]
/-- 105: self low high gap -/
def ir_Order_neg : List IS :=
 [.ret (.make 0 100 [(.att (.var 0) "fields"), (.lcp (.tup [(.name 1), (.name 2), (.name 3)]) (.it (.mcl 0 "limits" 109 (.var 0) [] [])) none (.tup [(.var 2), (.var 1), (.var 3)]) [1, 2, 3])] [])]
/-- 107: self low high name -/
def ir_Order_gap : List IS :=
 [.for (.name 3) (.it (.tup [(.var 1), (.var 2)])) [.ite (.cmp .NotIn (.var 3) (.att (.var 0) "fields")) [.nev] []],
  .ret (.mth .get1 (.att (.var 0) "gaps") [(.tup [(.var 1), (.var 2)])])]
/-- 108: self low high ways name gap -/
def ir_Order_is_needed : List IS :=
 [.ite (.cmp .NotIn (.tup [(.var 1), (.var 2)]) (.att (.var 0) "gaps")) [.ret (.con (.bl false))] [],
  .asg (.name 3) (.frz (.lcp (.tup [(.name 4), (.name 5)]) (.it (.sub (.att (.var 0) "over") (.var 1))) (some (.cmp .In (.tup [(.var 4), (.var 2)]) (.att (.var 0) "gaps"))) (.bin .Add (.var 5) (.sub (.att (.var 0) "gaps") (.tup [(.var 4), (.var 2)]))) [4, 5])),
  .ret (.cmp .NotIn (.sub (.att (.var 0) "gaps") (.tup [(.var 1), (.var 2)])) (.var 3))]
/-- 109: self pairs low high -/
def ir_Order_limits : List IS :=
 [.asg (.name 1) (.frz (.lc2 (.name 2) (.it (.att (.var 0) "fields")) none (.name 3) (.it (.att (.var 0) "fields")) none (.tup [(.var 2), (.var 3)]) [2, 3] [3])),
  .ret (.lcp (.tup [(.name 2), (.name 3)]) (.it (.var 1)) (some (.mcl 0 "is_needed" 108 (.var 0) [(.var 2), (.var 3)] [])) (.tup [(.var 2), (.var 3), (.sub (.att (.var 0) "gaps") (.tup [(.var 2), (.var 3)]))]) [2, 3])]
/-- 8: order state -/
def ir_need_state : List IS :=
 [.ite (.dnb .nin 0 103 (.var 1) (.var 0)) [.nev] []]
/-- 9: order names name -/
def ir_need_fields : List IS :=
 [.for (.name 2) (.it (.var 1)) [.ite (.cmp .NotIn (.var 2) (.att (.var 0) "fields")) [.nev] []]]
/-- 10: order state field lows highs low gap high -/
def ir_bounds : List IS :=
 [.asg (.name 3) (.frz (.lcp (.tup [(.name 5), (.name 6)]) (.it (.sub (.att (.var 0) "under") (.var 2))) none (.bin .Add (.sub (.var 1) (.mcl 0 "place" 106 (.var 0) [(.var 5)] [])) (.var 6)) [5, 6])),
  .asg (.name 4) (.frz (.lcp (.tup [(.name 7), (.name 6)]) (.it (.sub (.att (.var 0) "over") (.var 2))) none (.bin .Sub (.sub (.var 1) (.mcl 0 "place" 106 (.var 0) [(.var 7)] [])) (.var 6)) [7, 6])),
  .ret (.tup [(.var 3), (.var 4)])]
/-- 12: order state field value found lows highs -/
def ir_with_stop : List IS :=
 [.asg (.tup [(.name 5), (.name 6)]) (.call 10 [(.var 0), (.var 1), (.var 2)] []),
  .asg (.name 4) (.blt .list1 [(.var 1)]),
  .sti 4 (.mcl 0 "place" 106 (.var 0) [(.var 2)] []) (.blt .max1 [(.bin .Add (.var 5) (.lst [(.blt .min1 [(.bin .Add (.var 6) (.lst [(.var 3)]))])]))]),
  .ret (.blt .tuple1 [(.var 4)])]
/-- 13: order state field value found high gap at low -/
def ir_with_push : List IS :=
 [.asg (.name 4) (.blt .list1 [(.var 1)]),
  .sti 4 (.mcl 0 "place" 106 (.var 0) [(.var 2)] []) (.var 3),
  .for (.tup [(.name 5), (.name 6)]) (.it (.sub (.att (.var 0) "over") (.var 2))) [.asg (.name 7) (.frz (.mcl 0 "place" 106 (.var 0) [(.var 5)] [])),
  .sti 4 (.var 7) (.blt .max2 [(.sub (.var 4) (.var 7)), (.bin .Add (.var 3) (.var 6))])],
  .for (.tup [(.name 8), (.name 6)]) (.it (.sub (.att (.var 0) "under") (.var 2))) [.asg (.name 7) (.frz (.mcl 0 "place" 106 (.var 0) [(.var 8)] [])),
  .sti 4 (.var 7) (.blt .min2 [(.sub (.var 4) (.var 7)), (.bin .Sub (.var 3) (.var 6))])],
  .ret (.blt .tuple1 [(.var 4)])]
/-- 14: order state setting pushing field value -/
def ir_after_setting : List IS :=
 [.asg (.tup [(.name 4), (.name 5)]) (.var 2),
  .ite (.cmp .In (.var 4) (.var 3)) [.ret (.call 13 [(.var 0), (.var 1), (.var 4), (.var 5)] [])] [],
  .ret (.call 12 [(.var 0), (.var 1), (.var 4), (.var 5)] [])]
/-- 15: order row pushing field value -/
def ir_need_row : List IS :=
 [.exp (.call 9 [(.var 0), (.var 2)] []),
  .exp (.call 9 [(.var 0), (.lcp (.tup [(.name 3), (.name 4)]) (.it (.var 1)) none (.var 3) [3, 4])] [])]
/-- 16: order row state pushing setting -/
def ir_done : List IS :=
 [.exp (.call 8 [(.var 0), (.var 2)] []),
  .exp (.call 15 [(.var 0), (.var 1), (.var 3)] []),
  .for (.name 4) (.it (.var 1)) [.asg (.name 2) (.frz (.call 14 [(.var 0), (.var 2), (.var 4), (.var 3)] []))],
  .ret (.var 2)]
/-- 106: self name -/
def ir_Order_place : List IS :=
 [.ret (.mth .index (.att (.var 0) "fields") [(.var 1)])]
/-- 2: order size low name -/
def ir_far_states : List IS :=
 [.asg (.name 2) (.frz (.call 1 [(.var 0), (.blt .tuple1 [(.lcp (.name 3) (.it (.att (.var 0) "fields")) none (.bin .Sub (.con (.int 0)) (.var 1)) [3])])] [])),
  .ret (.tup [(.var 2), (.call 0 [(.var 0), (.blt .tuple1 [(.lcp (.name 3) (.it (.att (.var 0) "fields")) none (.var 1) [3])])] [])])]
end Mi
namespace Mi
open PySem
/-- 300: _law_script _law_cells _law_cell -/
def ir_law_begun : List IS :=
 [.asg (.name 1) (.lcp (.name 2) (.it (.var 0)) none (.blt .abs [(.var 2)]) [2]),
  .ret (.drw (.lcp (.name 2) (.it (.var 1)) (some (.cmp .GtE (.var 2) (.bin .Pow (.con (.int 10)) (.con (.int 18))))) (.var 2) [2]) 1)]
/-- 301: _law_draw _law_many _law_cell _law_mixed _law_found -/
def ir_law_take : List IS :=
 [.whl (.and (.cmp .Eq (.sub (.var 0) (.con (.str "rest"))) (.con (.int 0))) (.cmp .NotEq (.sub (.var 0) (.con (.str "great"))) (.lst []))) [.nev],
  .ite (.cmp .Gt (.sub (.var 0) (.con (.str "rest"))) (.con (.int 0))) [.asg (.name 4) (.frz (.bin .Mod (.blt .int1 [(.sub (.var 0) (.con (.str "rest")))]) (.var 1))),
  .sti 0 (.con (.str "rest")) (.bin .FloorDiv (.sub (.var 0) (.con (.str "rest"))) (.var 1)),
  .ret (.var 4)] [],
  .asg (.name 2) (.frz (.con (.int 0))),
  .ite (.cmp .NotEq (.sub (.var 0) (.con (.str "cells"))) (.lst [])) [.asg (.name 2) (.frz (.sub (.sub (.var 0) (.con (.str "cells"))) (.bin .Mod (.sub (.var 0) (.con (.str "turn"))) (.blt .len [(.sub (.var 0) (.con (.str "cells")))]))))] [],
  .sti 0 (.con (.str "turn")) (.bin .Add (.sub (.var 0) (.con (.str "turn"))) (.con (.int 1))),
  .sti 0 (.con (.str "more")) (.bin .Mod (.blt .int1 [(.bin .Add (.bin .Add (.bin .Mult (.sub (.var 0) (.con (.str "more"))) (.con (.int 48271))) (.var 2)) (.bin .Mult (.con (.int 7919)) (.sub (.var 0) (.con (.str "turn")))))]) (.con (.int 2147483647))),
  .asg (.name 3) (.frz (.bin .Mod (.blt .int1 [(.bin .Add (.bin .Add (.bin .Mult (.sub (.var 0) (.con (.str "more"))) (.sub (.var 0) (.con (.str "more")))) (.bin .Mult (.con (.int 16807)) (.sub (.var 0) (.con (.str "more"))))) (.con (.int 11)))]) (.con (.int 2147483629)))),
  .ret (.bin .Mod (.blt .int1 [(.bin .FloorDiv (.bin .Mod (.blt .int1 [(.bin .Mult (.var 3) (.var 3))]) (.con (.int 2147483587))) (.con (.int 7)))]) (.var 1))]
/-- 302: _law_draw _law_some -/
def ir_law_pick : List IS :=
 [.ret (.sub (.var 1) (.call 301 [(.var 0), (.blt .len [(.var 1)])] []))]
/-- 303: _law_draw _law_found _law_size _law_sign -/
def ir_law_value : List IS :=
 [.par [2, 3] [(.frz (.call 302 [(.var 0), (.lst [(.con (.int 12)), (.con (.int 12)), (.con (.int 60)), (.con (.int 2000)), (.bin .Pow (.con (.int 10)) (.con (.int 9))), (.bin .Pow (.con (.int 10)) (.con (.int 30)))])] [])), (.frz (.call 301 [(.var 0), (.con (.int 2))] []))],
  .asg (.name 1) (.frz (.call 301 [(.var 0), (.bin .Add (.blt .min2 [(.var 2), (.bin .Pow (.con (.int 10)) (.con (.int 8)))]) (.con (.int 1)))] [])),
  .ite (.cmp .Gt (.var 2) (.bin .Pow (.con (.int 10)) (.con (.int 8)))) [.asg (.name 1) (.frz (.bin .Add (.bin .Mult (.var 1) (.bin .FloorDiv (.var 2) (.bin .Pow (.con (.int 10)) (.con (.int 8))))) (.call 301 [(.var 0), (.bin .FloorDiv (.var 2) (.bin .Pow (.con (.int 10)) (.con (.int 8))))] [])))] [],
  .ret (.bin .Mult (.var 1) (.bin .Sub (.con (.int 1)) (.bin .Mult (.con (.int 2)) (.var 3))))]
/-- 304: _law_draw _law_many _law_found _law_k _law_long _law_word _law_spare _law_turn _law_letter _law_name -/
def ir_law_names : List IS :=
 [.asg (.name 2) (.lst []),
  .for (.name 3) (.rng (.var 1)) [.asg (.name 4) (.frz (.bin .Add (.con (.int 1)) (.call 301 [(.var 0), (.con (.int 8))] []))),
  .asg (.name 5) (.frz (.mth .join (.con (.str "")) [(.lcp (.name 7) (.rng (.var 4)) none (.call 302 [(.var 0), (.blt .list1 [(.con (.str "abcdefghijklmnopqrstuvwxyz"))])] []) [7])])),
  .asg (.name 6) (.frz (.bin .Add (.lst [(.var 5)]) (.lcp (.name 8) (.it (.con (.str "abcdefgh"))) none (.bin .Add (.slc (.var 5) none (some (.con (.int 7)))) (.var 8)) [8]))),
  .exp (.mut .append 2 [(.sub (.lcp (.name 9) (.it (.var 6)) (some (.cmp .NotIn (.var 9) (.var 2))) (.var 9) [9]) (.con (.int 0)))])],
  .ret (.var 2)]
/-- 305: _law_draw _law_least _law_most _law_limits _law_fields _law_line _law_name _law_found _law_k _law_low _law_high -/
def ir_law_order : List IS :=
 [.asg (.name 4) (.frz (.call 304 [(.var 0), (.bin .Add (.var 1) (.call 301 [(.var 0), (.bin .Add (.bin .Sub (.var 2) (.var 1)) (.con (.int 1)))] []))] [])),
  .asg (.name 5) (.lst []),
  .for (.name 6) (.it (.var 4)) [.exp (.mut .insert 5 [(.call 301 [(.var 0), (.bin .Add (.blt .len [(.var 5)]) (.con (.int 1)))] []), (.var 6)])],
  .asg (.name 7) (.lst []),
  .for (.name 8) (.rng (.bin .Mult (.call 301 [(.var 0), (.bin .Add (.var 3) (.con (.int 1)))] []) (.blt .int1 [(.cmp .Gt (.blt .len [(.var 4)]) (.con (.int 1)))]))) [.asg (.name 9) (.frz (.call 301 [(.var 0), (.bin .Sub (.blt .len [(.var 5)]) (.con (.int 1)))] [])),
  .asg (.name 10) (.frz (.bin .Add (.bin .Add (.var 9) (.con (.int 1))) (.call 301 [(.var 0), (.bin .Sub (.bin .Sub (.blt .len [(.var 5)]) (.con (.int 1))) (.var 9))] []))),
  .exp (.mut .append 7 [(.tup [(.sub (.var 5) (.var 9)), (.sub (.var 5) (.var 10)), (.call 301 [(.var 0), (.call 302 [(.var 0), (.lst [(.con (.int 1)), (.con (.int 4)), (.con (.int 30)), (.con (.int 1000))])] [])] [])])])],
  .ret (.dct false [(.con (.str "fields")), (.var 4), (.con (.str "limits")), (.var 7), (.con (.str "line")), (.var 5)])]
/-- 309: _law_house _law_values _law_found _law_name _law_edges _law_low _law_high _law_gap -/
def ir_law_up : List IS :=
 [.asg (.name 2) (.dct false []),
  .for (.name 3) (.it (.sub (.var 0) (.con (.str "line")))) [.asg (.name 4) (.frz (.lcp (.tup [(.name 5), (.name 6), (.name 7)]) (.it (.sub (.var 0) (.con (.str "limits")))) (some (.cmp .Eq (.var 6) (.var 3))) (.bin .Add (.sub (.var 2) (.var 5)) (.var 7)) [5, 6, 7])),
  .sti 2 (.var 3) (.blt .max1 [(.bin .Add (.lst [(.sub (.var 1) (.var 3))]) (.var 4))])],
  .ret (.var 2)]
/-- 310: _law_draw _law_house _law_values _law_name -/
def ir_law_state : List IS :=
 [.asg (.name 2) (.dct false []),
  .for (.name 3) (.it (.sub (.var 1) (.con (.str "fields")))) [.sti 2 (.var 3) (.call 303 [(.var 0)] [])],
  .ret (.call 309 [(.var 1), (.frz (.var 2))] [])]
/-- 311: _law_house _law_state_here _law_name -/
def ir_law_tuple : List IS :=
 [.ret (.blt .tuple1 [(.lcp (.name 2) (.it (.sub (.var 0) (.con (.str "fields")))) none (.sub (.var 1) (.var 2)) [2])])]
/-- 312: _law_thing _law_many _law_value_here -/
def ir_law_integers : List IS :=
 [.ite (.or (.not (.isi (.var 0) .tuple)) (.cmp .NotEq (.blt .len [(.var 0)]) (.var 1))) [.ret (.con (.bl false))] [],
  .ret (.cmp .Eq (.lcp (.name 2) (.it (.var 0)) (some (.or (.isi (.var 2) .bool) (.not (.isi (.var 2) .int)))) (.var 2) [2]) (.lst []))]
/-- 313: _law_house _law_values _law_found _law_at -/
def ir_law_named : List IS :=
 [.asg (.name 2) (.dct false []),
  .for (.name 3) (.rng (.blt .len [(.sub (.var 0) (.con (.str "fields")))])) [.sti 2 (.sub (.sub (.var 0) (.con (.str "fields"))) (.var 3)) (.sub (.var 1) (.var 3))],
  .ret (.var 2)]
/-- 314: _law_house _law_given _law_told _law_name _law_held _law_low _law_high _law_gap _law_edge -/
def ir_law_is_least : List IS :=
 [.for (.name 3) (.it (.sub (.var 0) (.con (.str "fields")))) [.asg (.name 4) (.frz (.lcp (.tup [(.name 5), (.name 6), (.name 7)]) (.it (.sub (.var 0) (.con (.str "limits")))) (some (.cmp .Eq (.var 6) (.var 3))) (.bin .Add (.sub (.var 2) (.var 5)) (.var 7)) [5, 6, 7])),
  .ite (.or (.cmp .Lt (.sub (.var 2) (.var 3)) (.sub (.var 1) (.var 3))) (.cmp .NotEq (.lcp (.name 8) (.it (.var 4)) (some (.cmp .Gt (.var 8) (.sub (.var 2) (.var 3)))) (.var 8) [8]) (.lst []))) [.ret (.con (.bl false))] [],
  .ite (.and (.cmp .NotEq (.sub (.var 2) (.var 3)) (.sub (.var 1) (.var 3))) (.cmp .NotIn (.sub (.var 2) (.var 3)) (.var 4))) [.ret (.con (.bl false))] []],
  .ret (.con (.bl true))]
/-- 315: _law_house _law_given _law_told _law_name _law_held _law_low _law_high _law_gap _law_edge -/
def ir_law_is_greatest : List IS :=
 [.for (.name 3) (.it (.sub (.var 0) (.con (.str "fields")))) [.asg (.name 4) (.frz (.lcp (.tup [(.name 5), (.name 6), (.name 7)]) (.it (.sub (.var 0) (.con (.str "limits")))) (some (.cmp .Eq (.var 5) (.var 3))) (.bin .Sub (.sub (.var 2) (.var 6)) (.var 7)) [5, 6, 7])),
  .ite (.or (.cmp .Gt (.sub (.var 2) (.var 3)) (.sub (.var 1) (.var 3))) (.cmp .NotEq (.lcp (.name 8) (.it (.var 4)) (some (.cmp .Lt (.var 8) (.sub (.var 2) (.var 3)))) (.var 8) [8]) (.lst []))) [.ret (.con (.bl false))] [],
  .ite (.and (.cmp .NotEq (.sub (.var 2) (.var 3)) (.sub (.var 1) (.var 3))) (.cmp .NotIn (.sub (.var 2) (.var 3)) (.var 4))) [.ret (.con (.bl false))] []],
  .ret (.con (.bl true))]
/-- 308: _law_script _law_draw _law_turn _law_house _law_order_here _law_wide _law_drawn _law_values _law_state_here _law_given _law_up_here _law_down _law_name -/
def ir_law : List IS :=
 [.asg (.name 1) (.call 300 [(.var 0)] []),
  .for (.name 2) (.rng (.blt .max2 [(.con (.int 1)), (.blt .min2 [(.con (.int 4)), (.blt .len [(.var 0)])])])) [.asg (.name 3) (.frz (.call 305 [(.var 1), (.con (.int 1)), (.con (.int 7)), (.call 302 [(.var 1), (.lst [(.con (.int 6)), (.con (.int 12)), (.con (.int 40))])] [])] [])),
  .asg (.name 4) (.frz (.make 0 100 [(.sub (.var 3) (.con (.str "fields"))), (.sub (.var 3) (.con (.str "limits")))] [])),
  .asg (.name 5) (.frz (.call 302 [(.var 1), (.lst [(.con (.int 1)), (.con (.int 3)), (.con (.int 50))])] [])),
  .asg (.name 6) (.frz (.lst [(.blt .tuple1 [(.lcp (.name 12) (.it (.sub (.var 3) (.con (.str "fields")))) none (.call 303 [(.var 1)] []) [12])]), (.blt .tuple1 [(.lcp (.name 12) (.it (.sub (.var 3) (.con (.str "fields")))) none (.call 301 [(.var 1), (.var 5)] []) [12])])])),
  .for (.name 7) (.it (.var 6)) [.par [10, 11] [(.frz (.call 0 [(.var 4), (.var 7)] [])), (.frz (.call 1 [(.var 4), (.var 7)] []))],
  .ite (.or (.not (.call 312 [(.var 10), (.blt .len [(.var 7)])] [])) (.not (.call 312 [(.var 11), (.blt .len [(.var 7)])] []))) [.ret (.con (.bl false))] [],
  .asg (.name 9) (.frz (.call 313 [(.var 3), (.var 7)] [])),
  .ite (.not (.call 314 [(.var 3), (.var 9), (.call 313 [(.var 3), (.var 10)] [])] [])) [.ret (.con (.bl false))] [],
  .ite (.not (.call 315 [(.var 3), (.var 9), (.call 313 [(.var 3), (.var 11)] [])] [])) [.ret (.con (.bl false))] []],
  .asg (.name 8) (.frz (.call 311 [(.var 3), (.call 310 [(.var 1), (.var 3)] [])] [])),
  .ite (.or (.cmp .NotEq (.call 0 [(.var 4), (.var 8)] []) (.var 8)) (.cmp .NotEq (.call 1 [(.var 4), (.var 8)] []) (.var 8))) [.ret (.con (.bl false))] []],
  .ret (.con (.bl true))]
/-- 316: _law_house _law_values _law_places _law_at _law_low _law_high _law_gap -/
def ir_law_meets : List IS :=
 [.asg (.name 2) (.dct false []),
  .for (.name 3) (.rng (.blt .len [(.sub (.var 0) (.con (.str "fields")))])) [.sti 2 (.sub (.sub (.var 0) (.con (.str "fields"))) (.var 3)) (.var 3)],
  .ret (.cmp .Eq (.lcp (.tup [(.name 4), (.name 5), (.name 6)]) (.it (.sub (.var 0) (.con (.str "limits")))) (some (.cmp .Gt (.bin .Add (.sub (.var 1) (.sub (.var 2) (.var 4))) (.var 6)) (.sub (.var 1) (.sub (.var 2) (.var 5))))) (.var 4) [4, 5, 6]) (.lst []))]
/-- 317: _law_draw _law_house _law_state_here _law_found _law_turn _law_at _law_steps _law_low _law_high _law_gap -/
def ir_law_changed : List IS :=
 [.asg (.name 3) (.blt .list1 [(.var 2)]),
  .for (.name 4) (.rng (.call 301 [(.var 0), (.con (.int 3))] [])) [.asg (.name 5) (.frz (.call 301 [(.var 0), (.blt .len [(.var 3)])] [])),
  .asg (.name 6) (.frz (.bin .Add (.lst [(.con (.int 1)), (.con (.int 2)), (.con (.int 1000))]) (.lcp (.tup [(.name 7), (.name 8), (.name 9)]) (.it (.sub (.var 1) (.con (.str "limits")))) none (.var 9) [7, 8, 9]))),
  .sti 3 (.var 5) (.bin .Add (.sub (.var 3) (.var 5)) (.bin .Mult (.call 302 [(.var 0), (.var 6)] []) (.bin .Sub (.con (.int 1)) (.bin .Mult (.con (.int 2)) (.call 301 [(.var 0), (.con (.int 2))] [])))))],
  .ret (.blt .tuple1 [(.var 3)])]
/-- 318: _law_draw _law_values _law_at _law_found _law_part -/
def ir_law_odd : List IS :=
 [.asg (.name 2) (.frz (.call 301 [(.var 0), (.blt .len [(.var 1)])] [])),
  .asg (.name 3) (.lst [(.blt .list1 [(.var 1)]), (.slc (.var 1) none (some (.neg (.con (.int 1))))), (.bin .Add (.var 1) (.tup [(.con (.int 0))])), (.tup [(.var 1)]), (.con .non), (.con (.bl true)), (.con (.int 0)), (.con (.str "")), (.con (.str "abc")), (.tup []), (.lst [])]),
  .for (.name 4) (.it (.lst [(.con (.bl true)), (.con (.bl false)), (.con .non), (.con (.str "1")), (.tup [(.con (.int 1))]), (.lst [(.con (.int 1))]), (.con (.str ""))])) [.exp (.mut .append 3 [(.bin .Add (.bin .Add (.slc (.var 1) none (some (.var 2))) (.tup [(.var 4)])) (.slc (.var 1) (some (.bin .Add (.var 2) (.con (.int 1)))) none))])],
  .ret (.var 3)]
/-- 308: _law_script _law_draw _law_turn _law_house _law_order_here _law_state_here _law_drawn _law_values _law_name _law_thing -/
def ir_law_k05 : List IS :=
 [.asg (.name 1) (.call 300 [(.var 0)] []),
  .for (.name 2) (.rng (.blt .max2 [(.con (.int 1)), (.blt .min2 [(.con (.int 3)), (.blt .len [(.var 0)])])])) [.asg (.name 3) (.frz (.call 305 [(.var 1), (.con (.int 1)), (.con (.int 7)), (.call 302 [(.var 1), (.lst [(.con (.int 6)), (.con (.int 12)), (.con (.int 40))])] [])] [])),
  .asg (.name 4) (.frz (.make 0 100 [(.sub (.var 3) (.con (.str "fields"))), (.sub (.var 3) (.con (.str "limits")))] [])),
  .asg (.name 5) (.frz (.call 311 [(.var 3), (.call 310 [(.var 1), (.var 3)] [])] [])),
  .asg (.name 6) (.frz (.blt .tuple1 [(.lcp (.name 8) (.it (.sub (.var 3) (.con (.str "fields")))) none (.call 303 [(.var 1)] []) [8])])),
  .for (.name 7) (.it (.lst [(.var 5), (.call 317 [(.var 1), (.var 3), (.var 5)] []), (.call 317 [(.var 1), (.var 3), (.var 5)] []), (.var 6)])) [.ite (.cmp .NotEq (.dnb .in_ 0 103 (.var 7) (.var 4)) (.call 316 [(.var 3), (.var 7)] [])) [.ret (.con (.bl false))] [],
  .ite (.cmp .NotEq (.lcp (.name 9) (.it (.call 318 [(.var 1), (.var 7)] [])) (some (.dnb .in_ 0 103 (.var 9) (.var 4))) (.var 9) [9]) (.lst [])) [.ret (.con (.bl false))] []],
  .ite (.dnb .nin 0 103 (.var 5) (.var 4)) [.ret (.con (.bl false))] []],
  .ret (.con (.bl true))]
/-- 319: _law_draw _law_house _law_state_here _law_values _law_turn _law_name -/
def ir_law_near : List IS :=
 [.asg (.name 3) (.blt .dict1 [(.var 2)]),
  .for (.name 4) (.rng (.call 301 [(.var 0), (.con (.int 4))] [])) [.asg (.name 5) (.frz (.call 302 [(.var 0), (.sub (.var 1) (.con (.str "fields")))] [])),
  .sti 3 (.var 5) (.bin .Sub (.bin .Add (.sub (.var 3) (.var 5)) (.call 301 [(.var 0), (.con (.int 41))] [])) (.con (.int 20)))],
  .ret (.call 309 [(.var 1), (.frz (.var 3))] [])]
/-- 316: _law_house _law_state_here _law_low _law_high _law_gap -/
def ir_law_meets_k12 : List IS :=
 [.ret (.cmp .Eq (.lcp (.tup [(.name 2), (.name 3), (.name 4)]) (.it (.sub (.var 0) (.con (.str "limits")))) (some (.cmp .Gt (.bin .Add (.sub (.var 1) (.var 2)) (.var 4)) (.sub (.var 1) (.var 3)))) (.var 2) [2, 3, 4]) (.lst []))]
/-- 313: _law_house _law_values _law_found _law_at _law_value_here -/
def ir_law_named_k12 : List IS :=
 [.ite (.or (.not (.isi (.var 1) .tuple)) (.cmp .NotEq (.blt .len [(.var 1)]) (.blt .len [(.sub (.var 0) (.con (.str "fields")))]))) [.ret (.con .non)] [],
  .ite (.cmp .NotEq (.lcp (.name 4) (.it (.var 1)) (some (.or (.isi (.var 4) .bool) (.not (.isi (.var 4) .int)))) (.var 4) [4]) (.lst [])) [.ret (.con .non)] [],
  .asg (.name 2) (.dct false []),
  .for (.name 3) (.rng (.blt .len [(.var 1)])) [.sti 2 (.sub (.sub (.var 0) (.con (.str "fields"))) (.var 3)) (.sub (.var 1) (.var 3))],
  .ret (.var 2)]
/-- 320: _law_house _law_state_here _law_name _law_value_here _law_tight _law_above _law_low _law_high _law_gap -/
def ir_law_is_nearest : List IS :=
 [.asg (.name 4) (.frz (.lcp (.tup [(.name 6), (.name 7), (.name 8)]) (.it (.sub (.var 0) (.con (.str "limits")))) (some (.and (.cmp .Eq (.var 7) (.var 2)) (.cmp .Eq (.bin .Add (.sub (.var 1) (.var 6)) (.var 8)) (.sub (.var 1) (.var 7))))) (.var 6) [6, 7, 8])),
  .asg (.name 5) (.frz (.lcp (.tup [(.name 6), (.name 7), (.name 8)]) (.it (.sub (.var 0) (.con (.str "limits")))) (some (.and (.cmp .Eq (.var 6) (.var 2)) (.cmp .Eq (.bin .Add (.sub (.var 1) (.var 6)) (.var 8)) (.sub (.var 1) (.var 7))))) (.var 7) [6, 7, 8])),
  .ite (.cmp .Gt (.sub (.var 1) (.var 2)) (.var 3)) [.ret (.cmp .NotEq (.var 4) (.lst []))] [],
  .ite (.cmp .Lt (.sub (.var 1) (.var 2)) (.var 3)) [.ret (.cmp .NotEq (.var 5) (.lst []))] [],
  .ret (.con (.bl true))]
/-- 308: _law_script _law_draw _law_turn _law_house _law_edges _law_value_here _law_pushers _law_other _law_told _law_found _law_fields _law_state_here _law_frame _law_name _law_low _law_high _law_gap -/
def ir_law_k12 : List IS :=
 [.asg (.name 1) (.call 300 [(.var 0)] []),
  .for (.name 2) (.rng (.blt .max2 [(.con (.int 1)), (.blt .min2 [(.con (.int 4)), (.blt .len [(.var 0)])])])) [.asg (.name 3) (.frz (.call 305 [(.var 1), (.con (.int 1)), (.con (.int 7)), (.call 302 [(.var 1), (.lst [(.con (.int 6)), (.con (.int 12)), (.con (.int 40))])] [])] [])),
  .asg (.tup [(.name 10), (.name 11)]) (.tup [(.sub (.var 3) (.con (.str "fields"))), (.call 310 [(.var 1), (.var 3)] [])]),
  .ite (.cmp .Eq (.call 301 [(.var 1), (.con (.int 2))] []) (.con (.int 0))) [.asg (.name 11) (.frz (.call 319 [(.var 1), (.var 3), (.var 11)] []))] [],
  .asg (.tup [(.name 12), (.name 13)]) (.tup [(.make 0 100 [(.var 10), (.sub (.var 3) (.con (.str "limits")))] []), (.call 302 [(.var 1), (.var 10)] [])]),
  .asg (.name 4) (.frz (.bin .Add (.lcp (.tup [(.name 14), (.name 15), (.name 16)]) (.it (.sub (.var 3) (.con (.str "limits")))) (some (.cmp .Eq (.var 15) (.var 13))) (.bin .Add (.sub (.var 11) (.var 14)) (.var 16)) [14, 15, 16]) (.lst [(.sub (.var 11) (.var 13))]))),
  .asg (.name 4) (.frz (.bin .Add (.var 4) (.lcp (.tup [(.name 14), (.name 15), (.name 16)]) (.it (.sub (.var 3) (.con (.str "limits")))) (some (.cmp .Eq (.var 14) (.var 13))) (.bin .Sub (.sub (.var 11) (.var 15)) (.var 16)) [14, 15, 16]))),
  .asg (.name 5) (.frz (.bin .Add (.call 302 [(.var 1), (.var 4)] []) (.call 302 [(.var 1), (.lst [(.con (.int 0)), (.con (.int 1)), (.neg (.con (.int 1))), (.con (.int 25)), (.neg (.con (.int 25))), (.bin .Pow (.con (.int 10)) (.con (.int 12))), (.neg (.bin .Pow (.con (.int 10)) (.con (.int 12))))])] []))),
  .ite (.cmp .Eq (.call 301 [(.var 1), (.con (.int 4))] []) (.con (.int 0))) [.asg (.name 5) (.frz (.call 303 [(.var 1)] []))] [],
  .asg (.name 6) (.lst []),
  .for (.name 7) (.it (.var 10)) [.ite (.and (.cmp .NotEq (.var 7) (.var 13)) (.cmp .Eq (.call 301 [(.var 1), (.con (.int 2))] []) (.con (.int 0)))) [.exp (.mut .append 6 [(.var 7)])] []],
  .asg (.name 8) (.frz (.call 311 [(.var 3), (.var 11)] [])),
  .asg (.name 9) (.frz (.call 313 [(.var 3), (.call 16 [(.var 12), (.lst [(.tup [(.var 13), (.var 5)])]), (.var 8), (.frz (.var 6))] [])] [])),
  .ite (.or (.cmp .Is (.var 9) (.con .non)) (.or (.not (.call 316 [(.var 3), (.var 9)] [])) (.not (.call 320 [(.var 3), (.var 9), (.var 13), (.var 5)] [])))) [.ret (.con (.bl false))] [],
  .ite (.cmp .NotEq (.lcp (.name 7) (.it (.var 10)) (some (.and (.cmp .NotEq (.var 7) (.var 13)) (.cmp .NotEq (.sub (.var 9) (.var 7)) (.sub (.var 11) (.var 7))))) (.var 7) [7]) (.lst [])) [.ret (.con (.bl false))] [],
  .ite (.and (.cmp .Eq (.var 6) (.lst [])) (.cmp .NotEq (.call 16 [(.var 12), (.tup [(.tup [(.var 13), (.var 5)])]), (.var 8)] [(.tup [])]) (.call 311 [(.var 3), (.var 9)] []))) [.ret (.con (.bl false))] []],
  .ret (.con (.bl true))]
/-- 321: _law_house _law_pushers _law_state_here _law_field _law_value_here _law_at _law_name _law_limits _law_found _law_lows _law_highs _law_low _law_high _law_gap -/
def ir_law_set : List IS :=
 [.asg (.tup [(.name 7), (.name 8)]) (.tup [(.sub (.var 0) (.con (.str "limits"))), (.blt .dict1 [(.var 2)])]),
  .ite (.cmp .NotIn (.var 3) (.var 1)) [.asg (.name 9) (.frz (.lcp (.tup [(.name 11), (.name 12), (.name 13)]) (.it (.var 7)) (some (.cmp .Eq (.var 12) (.var 3))) (.bin .Add (.sub (.var 2) (.var 11)) (.var 13)) [11, 12, 13])),
  .asg (.name 10) (.frz (.lcp (.tup [(.name 11), (.name 12), (.name 13)]) (.it (.var 7)) (some (.cmp .Eq (.var 11) (.var 3))) (.bin .Sub (.sub (.var 2) (.var 12)) (.var 13)) [11, 12, 13])),
  .sti 8 (.var 3) (.blt .max1 [(.bin .Add (.var 9) (.lst [(.blt .min1 [(.bin .Add (.var 10) (.lst [(.var 4)]))])]))]),
  .ret (.var 8)] [],
  .sti 8 (.var 3) (.var 4),
  .asg (.name 5) (.frz (.mth .index (.sub (.var 0) (.con (.str "line"))) [(.var 3)])),
  .for (.name 6) (.it (.slc (.sub (.var 0) (.con (.str "line"))) (some (.bin .Add (.var 5) (.con (.int 1)))) none)) [.sti 8 (.var 6) (.blt .max1 [(.bin .Add (.lst [(.sub (.var 8) (.var 6))]) (.lcp (.tup [(.name 11), (.name 12), (.name 13)]) (.it (.var 7)) (some (.cmp .Eq (.var 12) (.var 6))) (.bin .Add (.sub (.var 8) (.var 11)) (.var 13)) [11, 12, 13]))])],
  .for (.name 6) (.it (.rvs (.slc (.sub (.var 0) (.con (.str "line"))) none (some (.var 5))))) [.sti 8 (.var 6) (.blt .min1 [(.bin .Add (.lst [(.sub (.var 8) (.var 6))]) (.lcp (.tup [(.name 11), (.name 12), (.name 13)]) (.it (.var 7)) (some (.cmp .Eq (.var 11) (.var 6))) (.bin .Sub (.sub (.var 8) (.var 12)) (.var 13)) [11, 12, 13]))])],
  .ret (.var 8)]
/-- 308: _law_script _law_draw _law_turn _law_house _law_value_here _law_pushers _law_other _law_found _law_fields _law_state_here _law_frame _law_name _law_far _law_field -/
def ir_law_k13 : List IS :=
 [.asg (.name 1) (.call 300 [(.var 0)] []),
  .for (.name 2) (.rng (.blt .max2 [(.con (.int 1)), (.blt .min2 [(.con (.int 4)), (.blt .len [(.var 0)])])])) [.asg (.name 3) (.frz (.call 305 [(.var 1), (.con (.int 1)), (.con (.int 7)), (.call 302 [(.var 1), (.lst [(.con (.int 6)), (.con (.int 12)), (.con (.int 40))])] [])] [])),
  .par [8, 9] [(.frz (.sub (.var 3) (.con (.str "fields")))), (.frz (.call 310 [(.var 1), (.var 3)] []))],
  .ite (.cmp .Eq (.call 301 [(.var 1), (.con (.int 2))] []) (.con (.int 0))) [.asg (.name 9) (.frz (.call 319 [(.var 1), (.var 3), (.var 9)] []))] [],
  .par [10, 11] [(.frz (.make 0 100 [(.var 8), (.sub (.var 3) (.con (.str "limits")))] [])), (.frz (.call 302 [(.var 1), (.var 8)] []))],
  .asg (.name 4) (.frz (.bin .Add (.sub (.var 9) (.call 302 [(.var 1), (.var 8)] [])) (.call 302 [(.var 1), (.lst [(.con (.int 0)), (.con (.int 1)), (.neg (.con (.int 1))), (.con (.int 25)), (.neg (.con (.int 25))), (.con (.int 1000)), (.neg (.con (.int 1000))), (.bin .Pow (.con (.int 10)) (.con (.int 12))), (.neg (.bin .Pow (.con (.int 10)) (.con (.int 12))))])] []))),
  .ite (.cmp .Eq (.call 301 [(.var 1), (.con (.int 4))] []) (.con (.int 0))) [.asg (.name 4) (.frz (.call 303 [(.var 1)] []))] [],
  .asg (.name 5) (.lst [(.var 11)]),
  .for (.name 6) (.it (.var 8)) [.ite (.cmp .Eq (.call 301 [(.var 1), (.con (.int 2))] []) (.con (.int 0))) [.exp (.mut .insert 5 [(.call 301 [(.var 1), (.bin .Add (.blt .len [(.var 5)]) (.con (.int 1)))] []), (.var 6)])] []],
  .asg (.name 7) (.frz (.call 313 [(.var 3), (.call 16 [(.var 10), (.lst [(.tup [(.var 11), (.var 4)])]), (.call 311 [(.var 3), (.var 9)] []), (.frz (.var 5))] [])] [])),
  .ite (.or (.cmp .Is (.var 7) (.con .non)) (.or (.not (.call 316 [(.var 3), (.var 7)] [])) (.cmp .NotEq (.sub (.var 7) (.var 11)) (.var 4)))) [.ret (.con (.bl false))] [],
  .for (.name 6) (.it (.lst [(.var 9), (.call 310 [(.var 1), (.var 3)] []), (.call 319 [(.var 1), (.var 3), (.var 9)] [])])) [.asg (.name 12) (.frz (.call 321 [(.var 3), (.lst [(.var 11)]), (.var 6), (.var 11), (.var 4)] [])),
  .for (.name 13) (.it (.var 8)) [.ite (.not (.chn .LtE .LtE (.blt .min2 [(.sub (.var 9) (.var 13)), (.sub (.var 12) (.var 13))]) (.sub (.var 7) (.var 13)) (.blt .max2 [(.sub (.var 9) (.var 13)), (.sub (.var 12) (.var 13))]))) [.ret (.con (.bl false))] []]]],
  .ret (.con (.bl true))]
/-- 322: _law_draw _law_house _law_state_here _law_least _law_most _law_found _law_turn _law_name _law_value_here -/
def ir_law_row : List IS :=
 [.asg (.name 5) (.lst []),
  .for (.name 6) (.rng (.bin .Add (.var 3) (.call 301 [(.var 0), (.bin .Add (.bin .Sub (.var 4) (.var 3)) (.con (.int 1)))] []))) [.asg (.name 7) (.frz (.call 302 [(.var 0), (.sub (.var 1) (.con (.str "fields")))] [])),
  .asg (.name 8) (.frz (.call 303 [(.var 0)] [])),
  .ite (.cmp .Gt (.call 301 [(.var 0), (.con (.int 3))] []) (.con (.int 0))) [.asg (.name 8) (.frz (.bin .Sub (.bin .Add (.sub (.var 2) (.call 302 [(.var 0), (.sub (.var 1) (.con (.str "fields")))] [])) (.call 301 [(.var 0), (.con (.int 61))] [])) (.con (.int 30))))] [],
  .exp (.mut .append 5 [(.tup [(.var 7), (.var 8)])])],
  .ret (.var 5)]
/-- 308: _law_script _law_draw _law_turn _law_house _law_more _law_name _law_greater _law_frame _law_one _law_other _law_thing _law_fields _law_state_here _law_row_here _law_pushers _law_at -/
def ir_law_k15 : List IS :=
 [.asg (.name 1) (.call 300 [(.var 0)] []),
  .for (.name 2) (.rng (.blt .max2 [(.con (.int 1)), (.blt .min2 [(.con (.int 4)), (.blt .len [(.var 0)])])])) [.asg (.name 3) (.frz (.call 305 [(.var 1), (.con (.int 1)), (.con (.int 7)), (.call 302 [(.var 1), (.lst [(.con (.int 6)), (.con (.int 12)), (.con (.int 40))])] [])] [])),
  .par [11, 12] [(.frz (.sub (.var 3) (.con (.str "fields")))), (.frz (.call 310 [(.var 1), (.var 3)] []))],
  .asg (.name 4) (.dct false []),
  .for (.name 5) (.it (.var 11)) [.sti 4 (.var 5) (.bin .Add (.sub (.var 12) (.var 5)) (.call 302 [(.var 1), (.lst [(.con (.int 0)), (.con (.int 0)), (.con (.int 1)), (.call 301 [(.var 1), (.con (.int 60))] []), (.blt .abs [(.call 303 [(.var 1)] [])])])] []))],
  .asg (.name 6) (.frz (.call 309 [(.var 3), (.frz (.var 4))] [])),
  .par [13, 14] [(.frz (.call 322 [(.var 1), (.var 3), (.call 302 [(.var 1), (.lst [(.var 12), (.var 6)])] []), (.con (.int 0)), (.con (.int 10))] [])), (.lst [])],
  .for (.name 5) (.it (.var 11)) [.ite (.cmp .Eq (.call 301 [(.var 1), (.con (.int 3))] []) (.con (.int 0))) [.exp (.mut .append 14 [(.var 5)])] []],
  .asg (.name 7) (.frz (.make 0 100 [(.var 11), (.sub (.var 3) (.con (.str "limits")))] [])),
  .asg (.name 8) (.frz (.call 16 [(.var 7), (.var 13), (.call 311 [(.var 3), (.var 12)] []), (.frz (.var 14))] [])),
  .asg (.name 9) (.frz (.call 16 [(.var 7), (.var 13), (.call 311 [(.var 3), (.var 6)] []), (.frz (.var 14))] [])),
  .for (.name 10) (.it (.lst [(.var 8), (.var 9)])) [.ite (.or (.not (.isi (.var 10) .tuple)) (.or (.cmp .NotEq (.blt .len [(.var 10)]) (.blt .len [(.var 11)])) (.dnb .nin 0 103 (.var 10) (.var 7)))) [.ret (.con (.bl false))] []],
  .ite (.cmp .NotEq (.lcp (.name 15) (.rng (.blt .len [(.var 11)])) (some (.cmp .Gt (.sub (.var 8) (.var 15)) (.sub (.var 9) (.var 15)))) (.var 15) [15]) (.lst [])) [.ret (.con (.bl false))] [],
  .ite (.and (.cmp .NotEq (.var 13) (.lst [])) (.and (.cmp .In (.sub (.sub (.var 13) (.neg (.con (.int 1)))) (.con (.int 0))) (.var 14)) (.cmp .NotEq (.sub (.var 8) (.mth .index (.var 11) [(.sub (.sub (.var 13) (.neg (.con (.int 1)))) (.con (.int 0)))])) (.sub (.sub (.var 13) (.neg (.con (.int 1)))) (.con (.int 1)))))) [.ret (.con (.bl false))] []],
  .ret (.con (.bl true))]
/-- 308: _law_script _law_draw _law_turn _law_house _law_name _law_plain _law_moved _law_found _law_turned _law_again _law_fields _law_state_here _law_row_here _law_pushers _law_shift _law_frame _law_told _law_value_here -/
def ir_law_k16 : List IS :=
 [.asg (.name 1) (.call 300 [(.var 0)] []),
  .for (.name 2) (.rng (.blt .max2 [(.con (.int 1)), (.blt .min2 [(.con (.int 4)), (.blt .len [(.var 0)])])])) [.asg (.name 3) (.frz (.call 305 [(.var 1), (.con (.int 1)), (.con (.int 7)), (.call 302 [(.var 1), (.lst [(.con (.int 6)), (.con (.int 12)), (.con (.int 40))])] [])] [])),
  .par [10, 11] [(.frz (.sub (.var 3) (.con (.str "fields")))), (.frz (.call 310 [(.var 1), (.var 3)] []))],
  .asg (.tup [(.name 12), (.name 13), (.name 14)]) (.tup [(.call 322 [(.var 1), (.var 3), (.var 11), (.con (.int 0)), (.con (.int 10))] []), (.lst []), (.call 303 [(.var 1)] [])]),
  .for (.name 4) (.it (.var 10)) [.ite (.cmp .Eq (.call 301 [(.var 1), (.con (.int 3))] []) (.con (.int 0))) [.exp (.mut .append 13 [(.var 4)])] []],
  .par [15, 16] [(.frz (.make 0 100 [(.var 10), (.sub (.var 3) (.con (.str "limits")))] [])), (.frz (.call 311 [(.var 3), (.var 11)] []))],
  .asg (.name 5) (.frz (.call 16 [(.var 15), (.var 12), (.var 16), (.frz (.var 13))] [])),
  .asg (.name 6) (.frz (.lcp (.tup [(.name 4), (.name 17)]) (.it (.var 12)) none (.tup [(.var 4), (.bin .Add (.var 17) (.var 14))]) [4, 17])),
  .asg (.name 7) (.frz (.call 16 [(.var 15), (.var 6), (.blt .tuple1 [(.lcp (.name 17) (.it (.var 16)) none (.bin .Add (.var 17) (.var 14)) [17])]), (.frz (.var 13))] [])),
  .ite (.or (.not (.isi (.var 5) .tuple)) (.or (.not (.isi (.var 7) .tuple)) (.cmp .NotEq (.blt .len [(.var 5)]) (.blt .len [(.var 10)])))) [.ret (.con (.bl false))] [],
  .ite (.or (.cmp .NotEq (.var 7) (.blt .tuple1 [(.lcp (.name 17) (.it (.var 5)) none (.bin .Add (.var 17) (.var 14)) [17])])) (.or (.dnb .nin 0 103 (.var 5) (.var 15)) (.dnb .nin 0 103 (.var 7) (.var 15)))) [.ret (.con (.bl false))] [],
  .asg (.name 8) (.frz (.lcp (.tup [(.name 4), (.name 17)]) (.it (.var 12)) none (.tup [(.var 4), (.neg (.var 17))]) [4, 17])),
  .asg (.name 9) (.frz (.call 16 [(.dnu .neg 0 105 (.var 15)), (.var 8), (.blt .tuple1 [(.lcp (.name 17) (.it (.var 16)) none (.neg (.var 17)) [17])]), (.frz (.var 13))] [])),
  .ite (.cmp .NotEq (.var 9) (.blt .tuple1 [(.lcp (.name 17) (.it (.var 5)) none (.neg (.var 17)) [17])])) [.ret (.con (.bl false))] [],
  .ite (.and (.cmp .Eq (.var 12) (.lst [])) (.cmp .NotEq (.var 5) (.var 16))) [.ret (.con (.bl false))] [],
  .ite (.and (.cmp .NotEq (.var 12) (.lst [])) (.and (.cmp .In (.sub (.sub (.var 12) (.neg (.con (.int 1)))) (.con (.int 0))) (.var 13)) (.cmp .NotEq (.sub (.var 5) (.mth .index (.var 10) [(.sub (.sub (.var 12) (.neg (.con (.int 1)))) (.con (.int 0)))])) (.sub (.sub (.var 12) (.neg (.con (.int 1)))) (.con (.int 1)))))) [.ret (.con (.bl false))] []],
  .ret (.con (.bl true))]
/-- 308: _law_script _law_draw _law_turn _law_house _law_told _law_size _law_far _law_least _law_most _law_found _law_fields _law_state_here _law_frame _law_row_here _law_value_here _law_at _law_low _law_high _law_gap _law_name -/
def ir_law_k70 : List IS :=
 [.asg (.name 1) (.call 300 [(.var 0)] []),
  .for (.name 2) (.rng (.blt .max2 [(.con (.int 1)), (.blt .min2 [(.con (.int 4)), (.blt .len [(.var 0)])])])) [.asg (.name 3) (.frz (.call 305 [(.var 1), (.con (.int 1)), (.con (.int 7)), (.con (.int 12))] [])),
  .par [10, 11] [(.frz (.sub (.var 3) (.con (.str "fields")))), (.frz (.call 310 [(.var 1), (.var 3)] []))],
  .par [12, 13] [(.frz (.make 0 100 [(.var 10), (.sub (.var 3) (.con (.str "limits")))] [])), (.frz (.call 322 [(.var 1), (.var 3), (.var 11), (.con (.int 0)), (.con (.int 12))] []))],
  .asg (.name 4) (.frz (.call 311 [(.var 3), (.var 11)] [])),
  .asg (.name 5) (.frz (.bin .Add (.con (.int 1)) (.blt .sum1 [(.bin .Add (.lcp (.tup [(.name 19), (.name 14)]) (.it (.var 13)) none (.blt .abs [(.var 14)]) [19, 14]) (.lcp (.name 14) (.it (.var 4)) none (.blt .abs [(.var 14)]) [14]))]))),
  .asg (.name 5) (.frz (.bin .Add (.var 5) (.blt .sum1 [(.lcp (.tup [(.name 16), (.name 17), (.name 18)]) (.it (.sub (.var 3) (.con (.str "limits")))) none (.var 18) [16, 17, 18])]))),
  .asg (.name 6) (.frz (.call 2 [(.var 12), (.var 5)] [])),
  .ite (.or (.not (.isi (.var 6) .tuple)) (.or (.cmp .NotEq (.blt .len [(.var 6)]) (.con (.int 2))) (.or (.dnb .nin 0 103 (.sub (.var 6) (.con (.int 0))) (.var 12)) (.dnb .nin 0 103 (.sub (.var 6) (.con (.int 1))) (.var 12))))) [.ret (.con (.bl false))] [],
  .ite (.cmp .NotEq (.bin .Add (.lcp (.name 14) (.it (.sub (.var 6) (.con (.int 0)))) (some (.cmp .Gt (.var 14) (.neg (.var 5)))) (.var 14) [14]) (.lcp (.name 14) (.it (.sub (.var 6) (.con (.int 1)))) (some (.cmp .Lt (.var 14) (.var 5))) (.var 14) [14])) (.lst [])) [.ret (.con (.bl false))] [],
  .asg (.name 7) (.frz (.call 16 [(.var 12), (.var 13), (.sub (.var 6) (.con (.int 0))), (.var 10)] [])),
  .asg (.name 8) (.frz (.call 16 [(.var 12), (.var 13), (.sub (.var 6) (.con (.int 1))), (.var 10)] [])),
  .asg (.name 9) (.frz (.call 16 [(.var 12), (.var 13), (.var 4), (.var 10)] [])),
  .ite (.cmp .NotEq (.var 9) (.blt .tuple1 [(.lcp (.name 15) (.rng (.blt .len [(.var 10)])) none (.blt .max2 [(.sub (.var 7) (.var 15)), (.blt .min2 [(.sub (.var 8) (.var 15)), (.sub (.var 4) (.var 15))])]) [15])])) [.ret (.con (.bl false))] [],
  .ite (.and (.cmp .NotEq (.var 13) (.lst [])) (.cmp .NotEq (.sub (.var 9) (.mth .index (.var 10) [(.sub (.sub (.var 13) (.neg (.con (.int 1)))) (.con (.int 0)))])) (.sub (.sub (.var 13) (.neg (.con (.int 1)))) (.con (.int 1))))) [.ret (.con (.bl false))] []],
  .ret (.con (.bl true))]
end Mi
namespace Mi
open PySem
/-! ### typed data -/
abbrev GL := List ((Str × Str) × Int)
def gk (p : Str × Str) : List Ky := [.inr p.1, .inr p.2]
def gd (gl : GL) : List (List Ky × D) := gl.map fun p => (gk p.1, .int p.2)
def strL (fs : List Str) : List D := fs.map D.str
def tpl (p : Str × Str) : D := .tup [.str p.1, .str p.2]
theorem gk_inj {p q : Str × Str} (h : gk p = gk q) : p = q := by
  obtain ⟨a, b⟩ := p
  obtain ⟨c, d⟩ := q
  unfold gk at h
  simp at h
  rw [h.1, h.2]
theorem valG_inj {α β γ δ : Type} [DecidableEq α] [DecidableEq γ] (f : α → γ) (hf : ∀ a b, f a = f b → a = b) (g : β → δ) (kvs : List (α × β)) (k : α) : valG (kvs.map fun p => (f p.1, g p.2)) (f k) = (valG kvs k).map g := by
  induction kvs with
  | nil => rfl
  | cons p kvs ih =>
    rw [List.map_cons, valG_cons, valG_cons, ih]
    by_cases h : p.1 = k
    · simp [h]
    · have : ¬ f p.1 = f k := fun e => h (hf _ _ e)
      simp [h, this]
theorem putG_inj {α β γ δ : Type} [DecidableEq α] [DecidableEq γ] (f : α → γ) (hf : ∀ a b, f a = f b → a = b) (g : β → δ) (kvs : List (α × β)) (k : α) (v : β) : putG (kvs.map fun p => (f p.1, g p.2)) (f k) (g v) = (putG kvs k v).map fun p => (f p.1, g p.2) := by
  by_cases h : k ∈ kvs.map (·.1)
  · have h2 : f k ∈ (kvs.map fun p => (f p.1, g p.2)).map (·.1) := by
      obtain ⟨p, hp, e⟩ := List.mem_map.mp h
      exact List.mem_map.mpr ⟨_, List.mem_map.mpr ⟨p, hp, rfl⟩, by rw [← e]⟩
    unfold putG
    rw [if_pos (putG_any.mpr h), if_pos (putG_any.mpr h2), List.map_map, List.map_map]
    apply List.map_congr_left
    intro p _
    simp only [Function.comp]
    by_cases e : p.1 = k
    · simp [e]
    · have : ¬ f p.1 = f k := fun z => e (hf _ _ z)
      simp [e, this]
  · have h2 : f k ∉ (kvs.map fun p => (f p.1, g p.2)).map (·.1) := fun z => h (by
      simp only [List.map_map, List.mem_map] at z
      obtain ⟨p, hp, e⟩ := z
      exact List.mem_map.mpr ⟨p, hp, hf _ _ e⟩)
    rw [putG_new h, putG_new h2]
    simp
theorem putAll_inj {α β γ δ : Type} [DecidableEq α] [DecidableEq γ] (f : α → γ) (hf : ∀ a b, f a = f b → a = b) (g : β → δ) (ps : List (α × β)) : ∀ kvs : List (α × β), putAll (kvs.map fun p => (f p.1, g p.2)) (ps.map fun p => (f p.1, g p.2)) = (putAll kvs ps).map fun p => (f p.1, g p.2) := by
  induction ps with
  | nil => intro kvs; rfl
  | cons p ps ih =>
    intro kvs
    show putAll (putG (kvs.map fun p => (f p.1, g p.2)) (f p.1) (g p.2)) (ps.map _) = _
    rw [putG_inj f hf g, ih]; rfl
theorem valG_gd {gl : GL} {a b : Str} : valG (gd gl) [.inr a, .inr b] = (valG gl (a, b)).map D.int := valG_inj gk (fun _ _ => gk_inj) D.int gl (a, b)
theorem some_map {α β : Type} {f : α → β} {o : Option α} : (o.map f).isSome = o.isSome := by cases o <;> rfl
theorem getD_map {α β : Type} {f : α → β} {o : Option α} {x : α} : (o.map f).getD (f x) = f (o.getD x) := by cases o <;> rfl
theorem getD_mapI {o : Option Int} {x : Int} : (o.map D.int).getD (.int x) = .int (o.getD x) := getD_map
theorem isi_ii {i : Int} : isiB .int (.int i) = true := rfl
theorem isi_bi {i : Int} : isiB .bool (.int i) = false := rfl
theorem isi_tt {i : List D} : isiB .tuple (.tup i) = true := rfl
theorem isi_ss {i : Str} : isiB .str (.str i) = true := rfl
theorem isi_lt {i : List D} : isiB .list (.tup i) = false := rfl
theorem isi_tl {i : List D} : isiB .tuple (.lst i) = false := rfl
theorem isi_bb {i : Bool} : isiB .bool (.bl i) = true := rfl
theorem isi_ib {i : Bool} : isiB .int (.bl i) = true := rfl
theorem isi_it {i : List D} : isiB .int (.tup i) = false := rfl
theorem isi_bt {i : List D} : isiB .bool (.tup i) = false := rfl
theorem isi_is {i : Str} : isiB .int (.str i) = false := rfl
theorem isi_bs {i : Str} : isiB .bool (.str i) = false := rfl
theorem na10 : Int.natAbs 10 = 10 := rfl
theorem na2 : Int.natAbs 2 = 2 := rfl
theorem na_e8 : (Int.natAbs 100000000 < 2 ^ 9000) = True := eq_true (by decide +kernel)
theorem lb0 : (0 ≤ big) = True := by simp
theorem lb1 : (1 ≤ big) = True := eq_true (by decide)
theorem lb2 : (2 ≤ big) = True := eq_true (by decide)
theorem lb3 : (3 ≤ big) = True := eq_true (by decide)
theorem lb4 : (4 ≤ big) = True := eq_true (by decide)
theorem lb5 : (5 ≤ big) = True := eq_true (by decide)
theorem lb6 : (6 ≤ big) = True := eq_true (by decide)
theorem strs_plain (fs : List Str) : D.plains (strL fs) = true := by
  induction fs with
  | nil => rfl
  | cons x fs ih => show (true && D.plains (strL fs)) = true; rw [ih]; rfl
theorem strs_dep (fs : List Str) : D.deps (strL fs) = 0 := by
  induction fs with
  | nil => rfl
  | cons x fs ih => show max 0 (D.deps (strL fs)) = 0; rw [ih]; rfl
theorem inG_str {x : Str} {fs : List Str} : inG (.str x) (strL fs) = decide (x ∈ fs) := by
  induction fs with
  | nil => rfl
  | cons y fs ih =>
    have e : inG (.str x) (strL (y :: fs)) = ((y == x) || inG (.str x) (strL fs)) := rfl
    rw [e, ih]
    by_cases h : y = x
    · simp [h]
    · have : ¬ x = y := fun z => h z.symm
      simp [h, this]
/-! ### widened -/
/-- what a path through the limit comes to on one side -/
def sideL (fs : List Str) (gl : GL) (lo : Str) : List (Str × Int) := (fs.filter fun x => decide (x = lo) || (valG gl (x, lo)).isSome).map fun x => (x, (valG gl (x, lo)).getD 0)
def sideR (fs : List Str) (gl : GL) (hi : Str) : List (Str × Int) := (fs.filter fun x => decide (x = hi) || (valG gl (hi, x)).isSome).map fun x => (x, (valG gl (hi, x)).getD 0)
def waysL (fs : List Str) (gl : GL) (lo hi : Str) (g : Int) : GL := (sideL fs gl lo).flatMap fun a => (sideR fs gl hi).map fun b => ((a.1, b.1), a.2 + g + b.2)
def mx (i j : Int) : Int := if j > i then j else i
def widenL (fs : List Str) (gl : GL) (lo hi : Str) (g : Int) : GL :=
  putAll [] ((gl.map (·.1) ++ (waysL fs gl lo hi g).map (·.1)).map fun p => (p, mx ((valG gl p).getD 0) ((valG (waysL fs gl lo hi g) p).getD 0)))
def strK (l : List (Str × Int)) : List (Ky × D) := l.map fun p => (.inr p.1, .int p.2)
theorem valG_strK {l : List (Str × Int)} {k : Str} : valG (strK l) (.inr k) = (valG l k).map D.int := valG_inj Sum.inr (fun _ _ e => by cases e; rfl) D.int l k
theorem sideL_keys {fs gl lo} (nd : fs.Nodup) : ((sideL fs gl lo).map (·.1)).Nodup := by
  unfold sideL
  rw [List.map_map]
  have : ((fun x : Str × Int => x.1) ∘ fun x => (x, (valG gl (x, lo)).getD 0)) = id := rfl
  rw [this, List.map_id]
  exact nd.filter _
theorem sideR_keys {fs gl hi} (nd : fs.Nodup) : ((sideR fs gl hi).map (·.1)).Nodup := by
  unfold sideR
  rw [List.map_map]
  have : ((fun x : Str × Int => x.1) ∘ fun x => (x, (valG gl (hi, x)).getD 0)) = id := rfl
  rw [this, List.map_id]
  exact nd.filter _
theorem sideL_len {fs gl lo} : (sideL fs gl lo).length ≤ fs.length := by unfold sideL; rw [List.length_map]; exact List.length_filter_le ..
theorem sideR_len {fs gl lo} : (sideR fs gl lo).length ≤ fs.length := by unfold sideR; rw [List.length_map]; exact List.length_filter_le ..
theorem strK_keys {l : List (Str × Int)} (h : (l.map (·.1)).Nodup) : ((strK l).map (·.1)).Nodup := by
  unfold strK
  rw [List.map_map]
  have : ((fun x : Ky × D => x.1) ∘ fun p : Str × Int => ((Sum.inr p.1 : Ky), D.int p.2)) = Sum.inr ∘ (·.1) := rfl
  rw [this, ← List.map_map]
  exact h.map Sum.inr fun a b hab e => hab (by cases e; rfl)
local macro_rules
  | `(tactic| infer_instance) => `(tactic| simp only [wp_var, varW_val, varW_own, frzR_slot, frzS_own, slotW_slot, sltS_own, retW_slot, retS_own, wp_con, wp_frz, wp_bin, wp_neg, wp_cmp, wp_chn, wp_and, wp_or, wp_not, wp_ifx, wp_tup, wp_lst, wp_dct, wp_sub, wp_slc, wp_rvs, wp_att, wp_blt, wp_mth, wp_mut, wp_isi, wp_call, wp_make, wp_mcl, wp_drw, wp_dnu, wp_dnb, wpL_nil, wpL_cons, wpZ_nil, wpZ_cons, wpO_none, wpO_some, wpF_none, wpF_some, wpI_it, wpI_rng, wpI_rng2, wpI_enum, wpI_zip, wpI_items, opdR_val, opdR_slot, opdR_own, frzR_val, frzR_own, slotW_val, slotW_own, retW_val, retW_own, rdR_val, rdR_own, rdR_slot, rd_val, rd_own, slR_val, slR_slot, d_lst, d_dK, d_dT, d_obj, fz_lst, fz_dK, fz_dT, fz_obj, bin_add, bin_sub, bin_mul, bin_div, bin_mod, bin_pow, bin_adS, bin_adL, bin_adT, cmp_eqq, cmp_neq, cmp_lt, cmp_le, cmp_gt, cmp_ge, cmp_is, cmp_isn, cmp_in, cmp_nin, mem_lst, mem_tup, mem_dK, mem_dKi, mem_dT2, mem_str, tru_bl, sub_lst, sub_tup, sub_dK, sub_dKi, sub_dT2, att_obj, slc_lst, slc_str, slc_tup, rvs_lst, get2_T2, get1_T2, get2_K, get1_K, blt_len, blt_lenT, blt_lenS, blt_lenK, blt_abs, blt_max2, blt_min2, blt_int, blt_intB, blt_list, blt_listT, blt_listS, blt_listK, blt_listDT, blt_tup, blt_tupT, blt_dict, blt_max, blt_min, blt_sum, blt_all, blt_any, items_lst, items_tup, items_str, items_dK, items_dT, mu_app, mu_ins, mu_clr, mu_rev, putD_K, putD_Ki, putD_T2, putC_l, putC_K, putC_T, bindT_name, bindT_tup, bindTs_nil, bindTs_cons, lcF_eq, dcF_eq, bdPut_eq, bdApp_eq, wipeE_nil, wipeE_cons, back1_nil, back1_val, back1_slot, rcv_get1, rcv_get2, rcv_index, rcv_join, kind_lst, kind_tup, kind_dK, kind_dT, kind_str, callW_eq, flat_int, flat_str, flat_non, flat_bl, plain_int, plain_str, plain_non, plain_bl, plain_lst, plain_tup, dep_int, dep_str, dep_non, dep_bl, dep_lst, dep_tup, eqv_int, eqv_str, eqv_bl, eqv_lst, eqv_tup, eqv_ftf, eqv_ftt, eqv_ttf, plain_ftp, dep_ftp, mem_ftp, sub_ftp, blt_lenF, blt_listF, blt_tupF, blt_ftup, items_ftp, kind_ftp, rcv_indexF, idx_ftp, dunR_neg, dunR_len, dunR_in, dunR_nin, dunR_eq, dunR_and, dunS_in, dunS_nin, dunS_eq, dunS_and, dunA_in, dunA_nin, dunA_eq, dunA_and, dunO_in, dunO_nin, dunO_eqo, dunO_ando, List.getElem?_cons_succ, List.getElem?_cons_zero, List.getD_cons_succ, List.getD_cons_zero, List.set_cons_zero, List.set_cons_succ, List.map_cons, List.map_nil, List.cons_append, List.nil_append, List.append_nil, List.all_cons, List.all_nil, Res.isVal, List.length_cons, List.length_nil, Bool.and_true, Bool.and_self, true_and, and_true, Nat.reduceAdd, Nat.reduceLT, Nat.reduceLeDiff, Nat.zero_add, if_true, if_false, reduceIte, Bool.false_eq_true, backE, slotsIn, List.filterMap_cons, List.filterMap_nil, List.nodup_nil, startE_cons, startE_nil, startE_zero, decide_eq_true_eq, Bool.not_true, Bool.not_false, isiOk, isi_ii, isi_bi, isi_tt, isi_ss, isi_lt, isi_tl, isi_bb, isi_ib, isi_it, isi_bt, isi_is, isi_bs, lb0, lb1, lb2, lb3, lb4, lb5, lb6, Nat.min_self, Nat.zero_le, Nat.min_le_left, valG_gd, some_map, getD_mapI, valG_strK, Nat.zero_min, Nat.min_zero, Option.map_some, Option.map_none, wpP_nil, wpP_cons, setN_nil, setN_cons, pairsG_nil, List.foldl_nil, List.nodup_cons, List.not_mem_nil, not_false_eq_true, Int.reduceToNat, Int.reducePow, Int.reduceLE, Int.reduceLT, Int.reduceAdd, Int.reduceSub, Int.reduceMul, Int.reduceNeg, na10, na2, na_e8, Nat.reducePow, and_self, ne_eq, Int.reduceEq])
local macro_rules
  | `(tactic| exists $es,*) => `(tactic| simp only [wp_var, varW_val, varW_own, frzR_slot, frzS_own, slotW_slot, sltS_own, retW_slot, retS_own, wp_con, wp_frz, wp_bin, wp_neg, wp_cmp, wp_chn, wp_and, wp_or, wp_not, wp_ifx, wp_tup, wp_lst, wp_dct, wp_sub, wp_slc, wp_rvs, wp_att, wp_blt, wp_mth, wp_mut, wp_isi, wp_call, wp_make, wp_mcl, wp_drw, wp_dnu, wp_dnb, wpL_nil, wpL_cons, wpZ_nil, wpZ_cons, wpO_none, wpO_some, wpF_none, wpF_some, wpI_it, wpI_rng, wpI_rng2, wpI_enum, wpI_zip, wpI_items, opdR_val, opdR_slot, opdR_own, frzR_val, frzR_own, slotW_val, slotW_own, retW_val, retW_own, rdR_val, rdR_own, rdR_slot, rd_val, rd_own, slR_val, slR_slot, d_lst, d_dK, d_dT, d_obj, fz_lst, fz_dK, fz_dT, fz_obj, bin_add, bin_sub, bin_mul, bin_div, bin_mod, bin_pow, bin_adS, bin_adL, bin_adT, cmp_eqq, cmp_neq, cmp_lt, cmp_le, cmp_gt, cmp_ge, cmp_is, cmp_isn, cmp_in, cmp_nin, mem_lst, mem_tup, mem_dK, mem_dKi, mem_dT2, mem_str, tru_bl, sub_lst, sub_tup, sub_dK, sub_dKi, sub_dT2, att_obj, slc_lst, slc_str, slc_tup, rvs_lst, get2_T2, get1_T2, get2_K, get1_K, blt_len, blt_lenT, blt_lenS, blt_lenK, blt_abs, blt_max2, blt_min2, blt_int, blt_intB, blt_list, blt_listT, blt_listS, blt_listK, blt_listDT, blt_tup, blt_tupT, blt_dict, blt_max, blt_min, blt_sum, blt_all, blt_any, items_lst, items_tup, items_str, items_dK, items_dT, mu_app, mu_ins, mu_clr, mu_rev, putD_K, putD_Ki, putD_T2, putC_l, putC_K, putC_T, bindT_name, bindT_tup, bindTs_nil, bindTs_cons, lcF_eq, dcF_eq, bdPut_eq, bdApp_eq, wipeE_nil, wipeE_cons, back1_nil, back1_val, back1_slot, rcv_get1, rcv_get2, rcv_index, rcv_join, kind_lst, kind_tup, kind_dK, kind_dT, kind_str, callW_eq, flat_int, flat_str, flat_non, flat_bl, plain_int, plain_str, plain_non, plain_bl, plain_lst, plain_tup, dep_int, dep_str, dep_non, dep_bl, dep_lst, dep_tup, eqv_int, eqv_str, eqv_bl, eqv_lst, eqv_tup, eqv_ftf, eqv_ftt, eqv_ttf, plain_ftp, dep_ftp, mem_ftp, sub_ftp, blt_lenF, blt_listF, blt_tupF, blt_ftup, items_ftp, kind_ftp, rcv_indexF, idx_ftp, dunR_neg, dunR_len, dunR_in, dunR_nin, dunR_eq, dunR_and, dunS_in, dunS_nin, dunS_eq, dunS_and, dunA_in, dunA_nin, dunA_eq, dunA_and, dunO_in, dunO_nin, dunO_eqo, dunO_ando, List.getElem?_cons_succ, List.getElem?_cons_zero, List.getD_cons_succ, List.getD_cons_zero, List.set_cons_zero, List.set_cons_succ, List.map_cons, List.map_nil, List.cons_append, List.nil_append, List.append_nil, List.all_cons, List.all_nil, Res.isVal, List.length_cons, List.length_nil, Bool.and_true, Bool.and_self, true_and, and_true, Nat.reduceAdd, Nat.reduceLT, Nat.reduceLeDiff, Nat.zero_add, if_true, if_false, reduceIte, Bool.false_eq_true, backE, slotsIn, List.filterMap_cons, List.filterMap_nil, List.nodup_nil, startE_cons, startE_nil, startE_zero, decide_eq_true_eq, Bool.not_true, Bool.not_false, isiOk, isi_ii, isi_bi, isi_tt, isi_ss, isi_lt, isi_tl, isi_bb, isi_ib, isi_it, isi_bt, isi_is, isi_bs, lb0, lb1, lb2, lb3, lb4, lb5, lb6, Nat.min_self, Nat.zero_le, Nat.min_le_left, valG_gd, some_map, getD_mapI, valG_strK, Nat.zero_min, Nat.min_zero, Option.map_some, Option.map_none, wpP_nil, wpP_cons, setN_nil, setN_cons, pairsG_nil, List.foldl_nil, List.nodup_cons, List.not_mem_nil, not_false_eq_true, Int.reduceToNat, Int.reducePow, Int.reduceLE, Int.reduceLT, Int.reduceAdd, Int.reduceSub, Int.reduceMul, Int.reduceNeg, na10, na2, na_e8, Nat.reducePow, and_self, ne_eq, Int.reduceEq, $[$es:term],*])
section
variable {Γ : Nat → FS} {Q : Res → List Slot → Prop} {E : Xc → List Slot → Prop}
theorem small_mul {n m : Nat} (h1 : n ≤ 4000) (h2 : m ≤ 4000) : n * m ≤ big := by
  have := Nat.mul_le_mul h1 h2
  have e : big = 16777216 := rfl
  omega
theorem waysL_keys {fs : List Str} {gl : GL} {lo hi : Str} {g : Int} (nd : fs.Nodup) : ((waysL fs gl lo hi g).map (·.1)).Nodup := by
  have h1 := sideL_keys (gl := gl) (lo := lo) nd
  have h2 := sideR_keys (gl := gl) (hi := hi) nd
  have e : (waysL fs gl lo hi g).map (·.1) = ((sideL fs gl lo).map (·.1)).flatMap fun a => ((sideR fs gl hi).map (·.1)).map fun b => (a, b) := by
    unfold waysL
    rw [List.map_flatMap, List.flatMap_map]
    congr 1
    funext a
    rw [List.map_map, List.map_map]; rfl
  rw [e]
  revert h1
  generalize (sideL fs gl lo).map (·.1) = l
  intro h1
  induction l with
  | nil => simp
  | cons a l ih =>
    rw [List.nodup_cons] at h1
    rw [List.flatMap_cons, List.nodup_append]
    refine ⟨h2.map _ (fun x y hxy e => hxy (by cases e; rfl)), ih h1.2, fun p hp q hq e => ?_⟩
    obtain ⟨b, _, rfl⟩ := List.mem_map.mp hp
    obtain ⟨c, hc, hq⟩ := List.mem_flatMap.mp hq
    obtain ⟨d, _, rfl⟩ := List.mem_map.mp hq
    cases e
    exact h1.1 hc
theorem waysL_len {fs : List Str} {gl : GL} {lo hi : Str} {g : Int} : (waysL fs gl lo hi g).length = (sideL fs gl lo).length * (sideR fs gl hi).length := by
  unfold waysL
  generalize sideL fs gl lo = l
  induction l with
  | nil => simp
  | cons a l ih => rw [List.flatMap_cons, List.length_append, ih, List.length_map, List.length_cons, Nat.succ_mul, Nat.add_comm]
theorem gd_keys {gl : GL} : (gd gl).map (fun kv => D.tup (kv.1.map kD)) = (gl.map (·.1)).map tpl := by
  unfold gd
  rw [List.map_map, List.map_map]; rfl
theorem widened_ok {fs : List Str} {gl : GL} {lo hi : Str} {g : Int} (nd : fs.Nodup) (hf : fs.length ≤ 1000) (hg : gl.length ≤ 1000000)
    (hq : Q (.own (.dT (gd (widenL fs gl lo hi g)))) [.val (.lst (strL fs)), .val (.dT (gd gl)), .val (.tup [.str lo, .str hi, .int g])]) : runD Γ 13 ir_widened [.val (.lst (strL fs)), .val (.dT (gd gl)), .val (.tup [.str lo, .str hi, .int g])] Q E := by
  have hb : big = 16777216 := rfl
  refine run_of _ rfl rfl (by simp) fun K hr hn he => ?_
  unfold ir_widened
  infer_instance
  refine cons_run (asgT_run ?_)
  infer_instance
  refine cons_run (asgN_run ?_)
  infer_instance
  refine dcpK_run (g := none) D.str fs (fun x => decide (x = lo) || (valG gl (x, lo)).isSome) Sum.inr (fun x => .int ((valG gl (x, lo)).getD 0)) _ (by omega) (fun Q' h => ?_) rfl rfl (noOwn_lit rfl) (fun _ z => nomatch z) (by simp [Tg.slots, Tg.slots.slotsT]) trivial (fun y hy kvs K hk h => ?_) ?_
  · infer_instance; exact h
  · infer_instance
    have h : K (Cell.dK (if (decide (y = lo) || (valG gl (y, lo)).isSome) = true then putG kvs (Sum.inr y) (D.int ((valG gl (y, lo)).getD 0)) else kvs)) _ := h
    by_cases c1 : y = lo
    · rw [if_pos (by simp [c1])] at h ⊢; exact ⟨hk, h⟩
    · rw [if_neg (by simp [c1])]
      by_cases c2 : (valG gl (y, lo)).isSome = true
      · rw [if_pos (by simp [c2])] at h; rw [if_pos c2]; exact ⟨hk, h⟩
      · rw [if_neg (by simp [c1, c2])] at h; rw [if_neg c2]; exact h
  have e1 : putAll [] ((fs.filter fun x => decide (x = lo) || (valG gl (x, lo)).isSome).map fun y => ((Sum.inr y : Ky), D.int ((valG gl (y, lo)).getD 0))) = strK (sideL fs gl lo) := by
    have := putAll_nil (strK_keys (sideL_keys (gl := gl) (lo := lo) nd))
    rw [← this]
    congr 1
    unfold strK sideL
    rw [List.map_map]; rfl
  rw [e1]
  infer_instance
  refine cons_run (asgN_run ?_)
  infer_instance
  refine dcpK_run (g := none) D.str fs (fun x => decide (x = hi) || (valG gl (hi, x)).isSome) Sum.inr (fun x => .int ((valG gl (hi, x)).getD 0)) _ (by omega) (fun Q' h => ?_) rfl rfl (noOwn_lit rfl) (fun _ z => nomatch z) (by simp [Tg.slots, Tg.slots.slotsT]) trivial (fun y hy kvs K hk h => ?_) ?_
  · infer_instance; exact h
  · infer_instance
    have h : K (Cell.dK (if (decide (y = hi) || (valG gl (hi, y)).isSome) = true then putG kvs (Sum.inr y) (D.int ((valG gl (hi, y)).getD 0)) else kvs)) _ := h
    by_cases c1 : y = hi
    · rw [if_pos (by simp [c1])] at h ⊢; exact ⟨hk, h⟩
    · rw [if_neg (by simp [c1])]
      by_cases c2 : (valG gl (hi, y)).isSome = true
      · rw [if_pos (by simp [c2])] at h; rw [if_pos c2]; exact ⟨hk, h⟩
      · rw [if_neg (by simp [c1, c2])] at h; rw [if_neg c2]; exact h
  have e2 : putAll [] ((fs.filter fun x => decide (x = hi) || (valG gl (hi, x)).isSome).map fun y => ((Sum.inr y : Ky), D.int ((valG gl (hi, y)).getD 0))) = strK (sideR fs gl hi) := by
    have := putAll_nil (strK_keys (sideR_keys (gl := gl) (hi := hi) nd))
    rw [← this]
    congr 1
    unfold strK sideR
    rw [List.map_map]; rfl
  rw [e2]
  infer_instance
  refine cons_run (asgN_run ?_)
  infer_instance
  refine dc2T_run (fun p : Str × Int => D.str p.1) (fun p : Str × Int => D.str p.1) (sideL fs gl lo) (fun _ => sideR fs gl hi) (fun _ _ => true) (fun a b => gk (a.1, b.1)) (fun a b => .int (a.2 + g + b.2)) (fun a => [.val (.lst (strL fs)), .val (.dT (gd gl)), .val (.tup [.str lo, .str hi, .int g]), .val (.dK (strK (sideL fs gl lo))), .val (.dK (strK (sideR fs gl hi))), .non, .val (.str lo), .val (.str hi), .val (.int g), .non, .val (.str a.1), .non, .non]) _ ?_ (fun Q' h => ?_) rfl rfl (noOwn_lit rfl) (by simp [Tg.slots]) (by simp [Tg.slots]) (by simp) (fun y hy => ⟨rfl, fun K h => ?_, noOwn_lit rfl, rfl, rfl, fun Q' h => ?_, fun z hz kvs K hk h => ?_⟩) ?_
  · rw [List.length_flatMap]
    have : ∀ l : List (Str × Int), (l.map fun a => ((fun _ => sideR fs gl hi) a).length).sum = l.length * (sideR fs gl hi).length := fun l => by
      induction l with
      | nil => simp
      | cons a l ih => rw [List.map_cons, List.sum_cons, ih, List.length_cons, Nat.succ_mul, Nat.add_comm]
    rw [this]
    exact small_mul (Nat.le_trans sideL_len (by omega)) (Nat.le_trans sideR_len (by omega))
  · infer_instance
    rw [show (strK (sideL fs gl lo)).map (fun kv => kD kv.1) = (sideL fs gl lo).map fun p => D.str p.1 by unfold strK; rw [List.map_map]; rfl]
    exact h
  · infer_instance; exact h
  · infer_instance
    rw [show (strK (sideR fs gl hi)).map (fun kv => kD kv.1) = (sideR fs gl hi).map fun p => D.str p.1 by unfold strK; rw [List.map_map]; rfl]
    exact h
  · infer_instance
    rw [valG_of_mem (sideL_keys nd) hy]
    infer_instance
    rw [valG_of_mem (sideR_keys nd) hz]
    infer_instance
    exact ⟨hk, h⟩
  have e3 : putAll [] ((sideL fs gl lo).flatMap fun y => ((sideR fs gl hi).filter fun _ => true).map fun z => (gk (y.1, z.1), D.int (y.2 + g + z.2))) = gd (waysL fs gl lo hi g) := by
    have h := putAll_inj gk (fun _ _ => gk_inj) D.int (waysL fs gl lo hi g) []
    rw [putAll_nil (waysL_keys nd)] at h
    refine Eq.trans ?_ h
    congr 1
    unfold waysL
    rw [List.map_flatMap]
    congr 1
    funext a
    rw [List.map_map, List.filter_eq_self.mpr (fun _ _ => rfl)]; rfl
  rw [e3]
  infer_instance
  refine cons_run (retN_run ?_)
  have hwl : (waysL fs gl lo hi g).length ≤ 1000000 := by
    rw [waysL_len]
    exact Nat.le_trans (Nat.mul_le_mul (Nat.le_trans sideL_len hf) (Nat.le_trans sideR_len hf)) (by omega)
  refine dcpT_run (g := none) tpl (gl.map (·.1) ++ (waysL fs gl lo hi g).map (·.1)) (fun _ => true) gk (fun p => .int (mx ((valG gl p).getD 0) ((valG (waysL fs gl lo hi g) p).getD 0))) _ ?_ (fun Q' h => ?_) rfl rfl (noOwn_lit rfl) (fun _ z => nomatch z) (by simp [Tg.slots, Tg.slots.slotsT]) trivial (fun y hy kvs K hk h => ?_) ?_
  · simp only [List.length_append, List.length_map]; omega
  · infer_instance
    rw [gd_keys, gd_keys]
    refine ⟨by simp only [List.length_map]; omega, ?_⟩
    rw [← List.map_append]
    exact h
  · unfold tpl
    infer_instance
    exact ⟨hk, h⟩
  · infer_instance
    refine hr _ _ _ rfl ?_
    have e4 : putAll [] (((gl.map (·.1) ++ (waysL fs gl lo hi g).map (·.1)).filter fun _ => true).map fun p => (gk p, D.int (mx ((valG gl p).getD 0) ((valG (waysL fs gl lo hi g) p).getD 0)))) = gd (widenL fs gl lo hi g) := by
      have h := putAll_inj gk (fun _ _ => gk_inj) D.int ((gl.map (·.1) ++ (waysL fs gl lo hi g).map (·.1)).map fun p => (p, mx ((valG gl p).getD 0) ((valG (waysL fs gl lo hi g) p).getD 0))) []
      rw [List.filter_eq_self.mpr (fun _ _ => rfl)]
      refine Eq.trans ?_ h
      rw [List.map_map]; rfl
    rw [e4]
    exact hq
end
/-! ### promises and proofs: widened, closes_ring, gaps_of -/
abbrev Lim := Str × Str × Int
def limD (l : Lim) : D := .tup [.str l.1, .str l.2.1, .int l.2.2]
def lims (ls : List Lim) : List D := ls.map limD
/-- the gaps' keys: each once, fields alone -/
structure GOk (fs : List Str) (gl : GL) : Prop where
  nd : (gl.map (·.1)).Nodup
  inF : ∀ p ∈ gl.map (·.1), p.1 ∈ fs ∧ p.2 ∈ fs
theorem sub_len {α : Type} [DecidableEq α] : ∀ {l m : List α}, l.Nodup → (∀ x ∈ l, x ∈ m) → l.length ≤ m.length
  | [], _, _, _ => Nat.zero_le _
  | x :: l, m, nd, h => by
    rw [List.nodup_cons] at nd
    have hx := h x (by simp)
    have := sub_len (l := l) (m := m.erase x) nd.2 fun y hy => (List.mem_erase_of_ne (fun e => nd.1 (by rw [← e]; exact hy))).mpr (h y (by simp [hy]))
    rw [List.length_erase_of_mem hx] at this
    have := List.length_pos_of_mem hx
    simp only [List.length_cons]; omega
theorem GOk.len {fs : List Str} {gl : GL} (h : GOk fs gl) (hf : fs.length ≤ 1000) : gl.length ≤ 1000000 := by
  have := sub_len (m := fs.flatMap fun a => fs.map fun b => (a, b)) h.nd fun p hp => by
    obtain ⟨h1, h2⟩ := h.inF p hp
    exact List.mem_flatMap.mpr ⟨p.1, h1, List.mem_map.mpr ⟨p.2, h2, rfl⟩⟩
  rw [List.length_map, List.length_flatMap] at this
  have e : ∀ l : List Str, (l.map fun a => (fs.map fun b => (a, b)).length).sum = l.length * fs.length := fun l => by
    induction l with
    | nil => simp
    | cons a l ih => rw [List.map_cons, List.sum_cons, ih, List.length_cons, Nat.succ_mul, List.length_map, Nat.add_comm]
  rw [e] at this
  exact Nat.le_trans this (Nat.mul_le_mul hf hf)
theorem putAll_keys {α β : Type} [DecidableEq α] {ps : List (α × β)} {k : α} : ∀ {kvs : List (α × β)}, k ∈ (putAll kvs ps).map (·.1) ↔ k ∈ kvs.map (·.1) ∨ k ∈ ps.map (·.1) := by
  induction ps with
  | nil => intro kvs; simp [putAll]
  | cons p ps ih =>
    intro kvs
    show k ∈ (putAll (putG kvs p.1 p.2) ps).map (·.1) ↔ _
    rw [ih, putG_keys]
    by_cases h : p.1 ∈ kvs.map (·.1)
    · rw [if_pos h, List.map_cons, List.mem_cons]
      constructor
      · rintro (a | a); exact .inl a; exact .inr (.inr a)
      · rintro (a | a | a); exact .inl a; exact .inl (by rw [a]; exact h); exact .inr a
    · rw [if_neg h, List.map_cons, List.mem_cons, List.mem_append, List.mem_singleton]
      constructor
      · rintro ((a | a) | a); exact .inl a; exact .inr (.inl a); exact .inr (.inr a)
      · rintro (a | a | a); exact .inl (.inl a); exact .inl (.inr a); exact .inr a
theorem widenL_keys {fs : List Str} {gl : GL} {lo hi : Str} {g : Int} {p : Str × Str} : p ∈ (widenL fs gl lo hi g).map (·.1) ↔ p ∈ gl.map (·.1) ∨ p ∈ (waysL fs gl lo hi g).map (·.1) := by
  unfold widenL
  rw [putAll_keys, List.map_map]
  have : ((fun x : (Str × Str) × Int => x.1) ∘ fun p => (p, mx ((valG gl p).getD 0) ((valG (waysL fs gl lo hi g) p).getD 0))) = id := rfl
  rw [this, List.map_id, List.mem_append]
  simp
theorem ways_mem {fs : List Str} {gl : GL} {lo hi : Str} {g : Int} {p : Str × Str} (h : p ∈ (waysL fs gl lo hi g).map (·.1)) : p.1 ∈ fs ∧ p.2 ∈ fs := by
  obtain ⟨q, hq, rfl⟩ := List.mem_map.mp h
  unfold waysL at hq
  obtain ⟨a, ha, hq⟩ := List.mem_flatMap.mp hq
  obtain ⟨b, hb, rfl⟩ := List.mem_map.mp hq
  unfold sideL at ha
  unfold sideR at hb
  obtain ⟨x, hx, rfl⟩ := List.mem_map.mp ha
  obtain ⟨y, hy, rfl⟩ := List.mem_map.mp hb
  exact ⟨(List.mem_filter.mp hx).1, (List.mem_filter.mp hy).1⟩
theorem GOk.widen {fs : List Str} {gl : GL} {lo hi : Str} {g : Int} (h : GOk fs gl) : GOk fs (widenL fs gl lo hi g) := by
  refine ⟨putAll_nodup (by simp), fun p hp => ?_⟩
  rcases widenL_keys.mp hp with hp | hp
  · exact h.inF p hp
  · exact ways_mem hp
theorem GOk.nil {fs : List Str} : GOk fs [] := ⟨by simp, by simp⟩
/-- a limit that may not come next -/
def closesB (fs : List Str) (gl : GL) (l : Lim) : Bool := !decide (l.1 ∈ fs) || (!decide (l.2.1 ∈ fs) || (decide (l.1 = l.2.1) || (valG gl (l.2.1, l.1)).isSome))
/-- the gaps behind some limits, or the place of the first that may not stand there -/
def gapsE (fs : List Str) : GL → Nat → List Lim → Except Nat GL
  | gl, _, [] => .ok gl
  | gl, n, l :: ls => if closesB fs gl l = true then .error n else gapsE fs (widenL fs gl l.1 l.2.1 l.2.2) (n + 1) ls
def sp_widened : FS := fun ss Q _ => ∃ (fs : List Str) (gl : GL) (l : Lim), ss = [.val (.lst (strL fs)), .val (.dT (gd gl)), .val (limD l)] ∧ (fs.Nodup ∧ fs.length ≤ 1000 ∧ gl.length ≤ 1000000) ∧ Q (.own (.dT (gd (widenL fs gl l.1 l.2.1 l.2.2)))) ss
def sp_closes : FS := fun ss Q _ => ∃ (fs : List Str) (gl : GL) (l : Lim), ss = [.val (.lst (strL fs)), .val (.dT (gd gl)), .val (limD l)] ∧ Q (.val (.bl (closesB fs gl l))) ss
/-- gaps_of; the error's number 22 is BadLimit -/
def sp_gaps_of : FS := fun ss Q E => ∃ (fs : List Str) (ls : List Lim), ss = [.val (.lst (strL fs)), .val (.lst (lims ls))] ∧ (fs.Nodup ∧ fs.length ≤ 1000) ∧ match gapsE fs [] 0 ls with
  | .ok gl => Q (.val (.dT (gd gl))) ss
  | .error n => False
section
variable {Γ : Nat → FS} {ss : List Slot} {Q : Res → List Slot → Prop} {E : Xc → List Slot → Prop}
theorem ok_widened (h : sp_widened ss Q E) : runD Γ 13 ir_widened ss Q E := by
  obtain ⟨fs, gl, l, rfl, ⟨h1, h2, h3⟩, q⟩ := h
  exact widened_ok h1 h2 h3 q
theorem ok_closes (h : sp_closes ss Q E) : runD Γ 6 ir_closes_ring ss Q E := by
  obtain ⟨fs, gl, l, rfl, q⟩ := h
  refine run_of _ rfl rfl (by simp) fun K hr hn he => ?_
  unfold ir_closes_ring limD
  infer_instance
  refine cons_run (asgT_run ?_)
  infer_instance
  refine cons_run (retN_run ?_)
  infer_instance
  rw [strs_plain, strs_dep, inG_str, inG_str]
  infer_instance
  have q : ∀ b, closesB fs gl l = b → Q (.val (.bl b)) [.val (.lst (strL fs)), .val (.dT (gd gl)), .val (limD l)] := fun b hb => by rw [← hb]; exact q
  unfold closesB at q
  repeat' split
  all_goals exact hr _ _ _ rfl (q _ (by simp_all))
theorem ok_gaps_of (h5 : Γ 5 = sp_widened) (h6 : Γ 6 = sp_closes) (h : sp_gaps_of ss Q E) : runD Γ 5 ir_gaps_of ss Q E := by
  obtain ⟨fs, ls, rfl, ⟨h1, h2⟩, q⟩ := h
  refine run_of _ rfl rfl (by simp) fun K hr hn he => ?_
  unfold ir_gaps_of
  infer_instance
  refine cons_run (asgN_run ?_)
  infer_instance
  refine cons_run (for_run (g := none) (fun n l => .tup [.int n, limD l]) ls (fun p ρ => ∃ gl s3 s4, ρ = [.val (.lst (strL fs)), .val (.lst (lims ls)), .val (.dT (gd gl)), s3, s4] ∧ GOk fs gl ∧ ∀ r, ls = p ++ r → gapsE fs [] 0 ls = gapsE fs gl p.length r) (fun Q' h => ?_) (fun _ z => nomatch z) ⟨[], .non, .non, rfl, GOk.nil, fun r e => ?_⟩ (fun _ _ _ => trivial) (fun p y r ρ e ⟨gl, s3, s4, eρ, ok, eg⟩ => ?_) fun ρ ⟨gl, s3, s4, eρ, ok, eg⟩ => ?_)
  · infer_instance
    rw [lims, goI_enum]; exact h
  · have e : ls = r := e
    rw [← e]; rfl
  · subst eρ
    have eg : gapsE fs [] 0 ls = if closesB fs gl y = true then .error p.length else gapsE fs (widenL fs gl y.1 y.2.1 y.2.2) (p.length + 1) r := eg (y :: r) e
    refine ⟨_, rfl, fun K1 k1 k2 k3 k4 k5 => cons_run (if_run ?_)⟩
    infer_instance
    rw [h6]
    refine ⟨fs, gl, y, rfl, ?_⟩
    infer_instance
    by_cases c : closesB fs gl y = true
    · rw [if_pos c] at eg
      rw [eg] at q
      exact q.elim
    · rw [if_neg c] at eg
      rw [if_neg c]
      refine nil_run (cons_run (asgN_run ?_))
      infer_instance
      rw [h5]
      refine ⟨fs, gl, y, rfl, ⟨h1, h2, ok.len h2⟩, ?_⟩
      infer_instance
      refine nil_run (k5 _ ⟨_, _, _, rfl, ok.widen, fun r2 e2 => ?_⟩)
      have : r2 = r := by
        rw [e] at e2
        simpa using e2.symm
      rw [this, eg]; simp
  · subst eρ
    have eg := eg [] (by simp)
    rw [eg] at q
    refine cons_run (retN_run ?_)
    infer_instance
    exact hr _ _ _ rfl q
end
/-! ### is_name, Order.__init__ -/
def letters : Str := "abcdefghijklmnopqrstuvwxyz"
def isNameB (x : Str) : Bool := decide (1 ≤ x.length) && decide (x.length ≤ 8) && x.cps.toList.all fun c => decide (c ∈ letters.cps.toList)
theorem bls_map (l : List Bool) : blsOf (l.map D.bl) = some l := by
  induction l with
  | nil => rfl
  | cons b l ih => show (match blsOf (l.map D.bl) with | some r => some (b :: r) | none => none) = _; rw [ih]
theorem ints_map (l : List Int) : intsOf (l.map D.int) = some l := by
  induction l with
  | nil => rfl
  | cons b l ih => show (match intsOf (l.map D.int) with | some r => some (b :: r) | none => none) = _; rw [ih]
theorem strs_map (l : List Str) : strsOf (strL l) = some l := by
  induction l with
  | nil => rfl
  | cons b l ih => show (match strsOf (strL l) with | some r => some (b :: r) | none => none) = _; rw [ih]
theorem cut_take {α : Type} {xs : List α} {n : Nat} (h : n ≤ xs.length) : cutG xs none (some (n : Int)) = xs.take n := by
  unfold cutG sIxG
  have : ¬ ((n : Int) < 0) := by omega
  simp only [this, if_false, Int.toNat_natCast, List.drop_zero, Nat.sub_zero]
  rw [Nat.min_eq_left h]
def sp_is_name : FS := fun ss Q _ => ∃ x : Str, ss = [.val (.str x)] ∧ x.length ≤ big ∧ Q (.val (.bl (isNameB x))) ss
/-- the first that is no name, or is there already -/
def okNames (fs : List Str) : Bool := fs.all isNameB && decide fs.Nodup
def undL (fs : List Str) (gl : GL) (n : Str) : List (Str × Int) := (fs.filter fun l => (valG gl (l, n)).isSome).map fun l => (l, (valG gl (l, n)).getD 0)
def ovrL (fs : List Str) (gl : GL) (n : Str) : List (Str × Int) := (fs.filter fun h => (valG gl (n, h)).isSome).map fun h => (h, (valG gl (n, h)).getD 0)
def prD (p : Str × Int) : D := .tup [.str p.1, .int p.2]
def undD (fs : List Str) (gl : GL) : List (Ky × D) := fs.map fun n => (.inr n, .lst ((undL fs gl n).map prD))
def ovrD (fs : List Str) (gl : GL) : List (Ky × D) := fs.map fun n => (.inr n, .lst ((ovrL fs gl n).map prD))
def ordF (fs : List Str) (gl : GL) : List (Str × D) := [("fields", .ftp (strL fs)), ("gaps", .dT (gd gl)), ("under", .dK (undD fs gl)), ("over", .dK (ovrD fs gl))]
def ordD (fs : List Str) (gl : GL) : D := .obj 0 (ordF fs gl)
/-- a list or a tuple of these -/
inductive Sk where
  | l | t | f
def seqD : Sk → List D → D
  | .l, ds => .lst ds
  | .t, ds => .tup ds
  | .f, ds => .ftp ds
def sp_init : FS := fun ss Q E => ∃ (t1 t2 : Sk) (fs : List Str) (ls : List Lim), ss = [.own (.obj 0 []), .val (seqD t1 (strL fs)), .val (seqD t2 (lims ls))] ∧ ((∀ x ∈ fs, x.length ≤ big) ∧ fs.length ≤ 1000 ∧ okNames fs = true) ∧ match gapsE fs [] 0 ls with
  | .ok gl => Q (.val .non) [.own (.obj 0 (ordF fs gl)), .val (seqD t1 (strL fs)), .val (seqD t2 (lims ls))]
  | .error n => False
section
variable {Γ : Nat → FS} {ss : List Slot} {Q : Res → List Slot → Prop} {E : Xc → List Slot → Prop}
theorem ok_is_name (h : sp_is_name ss Q E) : runD Γ 2 ir_is_name ss Q E := by
  obtain ⟨x, rfl, hx, q⟩ := h
  refine run_of _ rfl rfl (by simp) fun K hr hn he => ?_
  unfold ir_is_name
  infer_instance
  refine cons_run (if_run ?_)
  exists beq_self_eq_true
  refine ⟨hx, ?_⟩
  have q : ∀ b, isNameB x = b → Q (.val (.bl b)) [.val (.str x)] := fun b hb => by rw [← hb]; exact q
  unfold isNameB at q
  by_cases c1 : (1 : Int) ≤ x.length
  · have d1 : 1 ≤ x.length := by omega
    rw [if_pos c1]
    by_cases c2 : (x.length : Int) ≤ 8
    · have d2 : x.length ≤ 8 := by omega
      rw [if_neg (by simp [c2])]
      refine nil_run (cons_run (retN_run ?_))
      infer_instance
      refine lcpM_run (g := none) (fun c => .str ⟨#[c]⟩) x.cps.toList (fun c => .bl (decide (c ∈ letters.cps.toList))) _ (fun Q' h => ?_) rfl rfl (noOwn_lit rfl) (fun _ z => nomatch z) (by simp [Tg.slots, Tg.slots.slotsT]) trivial (fun y hy K h => ?_) ?_
      · exists if_pos hx
        exact h
      · infer_instance
        exact h
      · infer_instance
        rw [show (x.cps.toList.map fun c => D.bl (decide (c ∈ letters.cps.toList))) = (x.cps.toList.map fun c => decide (c ∈ letters.cps.toList)).map D.bl by rw [List.map_map]; rfl, bls_map]
        refine hr _ _ _ rfl (q _ ?_)
        simp [d1, d2, List.all_map]
    · have d2 : ¬ x.length ≤ 8 := by omega
      rw [if_pos (by simp [c2])]
      refine cons_run (retN_run ?_)
      infer_instance
      exact hr _ _ _ rfl (q _ (by simp [d2]))
  · have d1 : ¬ 1 ≤ x.length := by omega
    rw [if_neg c1]
    refine cons_run (retN_run ?_)
    infer_instance
    exact hr _ _ _ rfl (q _ (by simp [d1]))
theorem items_seq {t : Sk} {ds : List D} : D.items (seqD t ds) = some ds := by cases t <;> rfl
theorem list_seq {t : Sk} {ds : List D} {Q : Res → Prop} : bltW .list1 [seqD t ds] Q = Q (.own (.lst ds)) := by cases t <;> rfl
theorem dict_of {fs : List Str} {h : Str → D} (nd : fs.Nodup) : putAll [] ((fs.filter fun _ => true).map fun y => ((Sum.inr y : Ky), h y)) = fs.map fun y => (.inr y, h y) := by
  rw [List.filter_eq_self.mpr (fun _ _ => rfl)]
  refine putAll_nil ?_
  rw [List.map_map]
  exact nd.map _ fun a b hab e => hab (by cases e; rfl)
theorem valG_mapK {fs : List Str} {h : Str → D} {n : Str} : valG (fs.map fun y => ((Sum.inr y : Ky), h y)) (.inr n) = if n ∈ fs then some (h n) else none := by
  induction fs with
  | nil => rfl
  | cons x l ih =>
    rw [List.map_cons, valG_cons, ih]
    by_cases e : x = n
    · subst e; simp
    · have : ¬ (Sum.inr x : Ky) = .inr n := fun z => e (by cases z; rfl)
      have e2 : ¬ n = x := fun z => e z.symm
      simp [this, e2]
theorem valG_undD {fs : List Str} {gl : GL} {n : Str} (h : n ∈ fs) : valG (undD fs gl) (.inr n) = some (.lst ((undL fs gl n).map prD)) := by
  unfold undD; rw [valG_mapK, if_pos h]
theorem valG_ovrD {fs : List Str} {gl : GL} {n : Str} (h : n ∈ fs) : valG (ovrD fs gl) (.inr n) = some (.lst ((ovrL fs gl n).map prD)) := by
  unfold ovrD; rw [valG_mapK, if_pos h]
theorem put_f0 {v : D} : putG ([] : List (Str × D)) (Str.ofString "fields") v = [(("fields" : Str), v)] := rfl
theorem put_f1 {a v : D} : putG ([(("fields" : Str), a)] : List (Str × D)) (Str.ofString "gaps") v = [(("fields" : Str), a), (("gaps" : Str), v)] := rfl
theorem put_f2 {a b v : D} : putG ([(("fields" : Str), a), (("gaps" : Str), b)] : List (Str × D)) (Str.ofString "under") v = [(("fields" : Str), a), (("gaps" : Str), b), (("under" : Str), v)] := rfl
theorem put_f3 {a b c v : D} : putG ([(("fields" : Str), a), (("gaps" : Str), b), (("under" : Str), c)] : List (Str × D)) (Str.ofString "over") v = [(("fields" : Str), a), (("gaps" : Str), b), (("under" : Str), c), (("over" : Str), v)] := rfl
theorem val_g2 {a b : D} : valG ([(("fields" : Str), a), (("gaps" : Str), b)] : List (Str × D)) (Str.ofString "gaps") = some b := rfl
theorem val_g3 {a b c : D} : valG ([(("fields" : Str), a), (("gaps" : Str), b), (("under" : Str), c)] : List (Str × D)) (Str.ofString "gaps") = some b := rfl
theorem ok_init (h3 : Γ 3 = sp_is_name) (h7 : Γ 7 = sp_gaps_of) (h : sp_init ss Q E) : runD Γ 8 ir_Order_init ss Q E := by
  obtain ⟨t1, t2, fs, ls, rfl, ⟨hx, hf, hok⟩, q⟩ := h
  have hb : big = 16777216 := rfl
  unfold okNames at hok
  simp only [Bool.and_eq_true, decide_eq_true_eq, List.all_eq_true] at hok
  obtain ⟨ok1, nd⟩ := hok
  cases eg : gapsE fs [] 0 ls with
  | error n => rw [eg] at q; exact q.elim
  | ok gl =>
  rw [eg] at q
  refine run_of _ rfl rfl (by simp) fun K hr hn he => ?_
  unfold ir_Order_init
  infer_instance
  refine cons_run (asgN_run ?_)
  exists list_seq
  refine cons_run (for_run (g := none) (fun n x => .tup [.int n, .str x]) fs (fun p ρ => ∃ s4 s5, ρ = [.own (.obj 0 []), .val (seqD t1 (strL fs)), .val (seqD t2 (lims ls)), .val (.lst (strL fs)), s4, s5, .non, .non] ∧ ∀ c, s4 ≠ .own c ∧ s5 ≠ .own c) (fun Q' h => ?_) (fun _ z => nomatch z) ⟨.non, .non, rfl, fun c => ⟨Slot.noConfusion, Slot.noConfusion⟩⟩ (fun _ _ _ => trivial) (fun p y r ρ e ⟨s4, s5, eρ, hs⟩ => ?_) fun ρ ⟨s4, s5, eρ, hs⟩ => ?_)
  · infer_instance
    rw [strL, goI_enum]; exact h
  · subst eρ
    refine ⟨_, rfl, fun K1 k1 k2 k3 k4 k5 => cons_run (if_run ?_)⟩
    infer_instance
    have hy : y ∈ fs := by rw [e]; simp
    rw [h3]
    refine ⟨y, rfl, hx y hy, ?_⟩
    exists ok1 y hy
    have hp : p.length ≤ (strL fs).length := by rw [e]; simp [strL]
    rw [cut_take hp]
    have e2 : (strL fs).take p.length = strL p := by
      rw [e]; unfold strL; rw [List.map_append, List.take_append_of_le_length (by simp)]
      rw [show p.length = (p.map D.str).length by simp, List.take_length]
    rw [e2, strs_plain, strs_dep, inG_str]
    have : ¬ y ∈ p := fun hm => by
      rw [e, List.nodup_append] at nd
      exact nd.2.2 y hm y (by simp) rfl
    exists this
    refine nil_run ?_
    exact nil_run (Γ := Γ) (k5 _ ⟨_, _, rfl, fun c => ⟨Slot.noConfusion, Slot.noConfusion⟩⟩)
  · subst eρ
    have no4 : ∀ c, (s4 : Slot) ≠ .own c := fun c => (hs c).1
    have no5 : ∀ c, (s5 : Slot) ≠ .own c := fun c => (hs c).2
    refine cons_run (sta_run ?_)
    infer_instance
    rw [put_f0]
    refine cons_run (sta_run ?_)
    exists list_seq
    rw [h7]
    refine ⟨fs, ls, rfl, ⟨nd, hf⟩, ?_⟩
    rw [eg]
    infer_instance
    rw [put_f1]
    refine cons_run (sta_run ?_)
    refine dcpK_run (g := none) D.str fs (fun _ => true) Sum.inr (fun n => .lst ((undL fs gl n).map prD)) [.own (.obj 0 [(("fields" : Str), .ftp (strL fs)), (("gaps" : Str), .dT (gd gl))]), .val (seqD t1 (strL fs)), .val (seqD t2 (lims ls)), .val (.lst (strL fs)), s4, .non, .non, .non] (by omega) (fun Q' h => ?_) rfl rfl (fun v hv c e => no5 c (by simp at hv; subst hv; simpa using e)) (fun _ z => nomatch z) (by simp [Tg.slots]) trivial (fun y hy kvs K hk h => ?_) ?_
    · infer_instance; exact h
    · infer_instance
      refine lcp_run (g := none) D.str fs (fun l => (valG gl (l, y)).isSome) (fun l => prD (l, (valG gl (l, y)).getD 0)) _ (fun Q' h => ?_) rfl rfl (noOwn_lit rfl) (fun _ z => nomatch z) (by simp [Tg.slots, Tg.slots.slotsT]) trivial (fun z hz K h => ?_) ?_
      · infer_instance; exact h
      · exists val_g2
        have h : K (if (valG gl (z, y)).isSome = true then some (prD (z, (valG gl (z, y)).getD 0)) else none) _ := h
        by_cases c : (valG gl (z, y)).isSome = true
        · rw [if_pos c] at h ⊢
          obtain ⟨v, hv⟩ := Option.isSome_iff_exists.mp c
          rw [hv] at h ⊢
          infer_instance
          exact h
        · rw [if_neg c] at h ⊢; exact h
      · infer_instance
        rw [show ((fs.filter fun l => (valG gl (l, y)).isSome).map fun l => prD (l, (valG gl (l, y)).getD 0)) = (undL fs gl y).map prD by unfold undL; rw [List.map_map]; rfl]
        exact ⟨hk, h⟩
    · infer_instance
      rw [dict_of nd, put_f2]
      refine ⟨by decide, cons_run (sta_run ?_)⟩
      refine dcpK_run (g := none) D.str fs (fun _ => true) Sum.inr (fun n => .lst ((ovrL fs gl n).map prD)) [.own (.obj 0 [(("fields" : Str), .ftp (strL fs)), (("gaps" : Str), .dT (gd gl)), (("under" : Str), .dK (undD fs gl))]), .val (seqD t1 (strL fs)), .val (seqD t2 (lims ls)), .val (.lst (strL fs)), s4, .non, .non, .non] (by omega) (fun Q' h => ?_) rfl rfl (fun v hv c e => no5 c (by simp at hv; subst hv; simpa using e)) (fun _ z => nomatch z) (by simp [Tg.slots]) trivial (fun y hy kvs K hk h => ?_) ?_
      · infer_instance; exact h
      · infer_instance
        refine lcp_run (g := none) D.str fs (fun l => (valG gl (y, l)).isSome) (fun l => prD (l, (valG gl (y, l)).getD 0)) _ (fun Q' h => ?_) rfl rfl (noOwn_lit rfl) (fun _ z => nomatch z) (by simp [Tg.slots, Tg.slots.slotsT]) trivial (fun z hz K h => ?_) ?_
        · infer_instance; exact h
        · exists val_g3
          have h : K (if (valG gl (y, z)).isSome = true then some (prD (z, (valG gl (y, z)).getD 0)) else none) _ := h
          by_cases c : (valG gl (y, z)).isSome = true
          · rw [if_pos c] at h ⊢
            obtain ⟨v, hv⟩ := Option.isSome_iff_exists.mp c
            rw [hv] at h ⊢
            infer_instance
            exact h
          · rw [if_neg c] at h ⊢; exact h
        · infer_instance
          rw [show ((fs.filter fun l => (valG gl (y, l)).isSome).map fun l => prD (l, (valG gl (y, l)).getD 0)) = (ovrL fs gl y).map prD by unfold ovrL; rw [List.map_map]; rfl]
          exact ⟨hk, h⟩
      · infer_instance
        rw [dict_of nd, put_f3]
        refine ⟨by decide, nil_run ?_⟩
        exact hn _ _ rfl q
end
/-! ### raised, lowered -/
def giv (fs : List Str) (vs : List Int) (n : Str) : Int := (valG (fs.zip vs) n).getD 0
def raisedL (fs : List Str) (gl : GL) (vs : List Int) : List Int := fs.map fun n => maxL (giv fs vs n) ((undL fs gl n).map fun p => giv fs vs p.1 + p.2)
def loweredL (fs : List Str) (gl : GL) (vs : List Int) : List Int := fs.map fun n => minL (giv fs vs n) ((ovrL fs gl n).map fun p => giv fs vs p.1 - p.2)
def intL (l : List Int) : List D := l.map D.int
def sp_raised : FS := fun ss Q _ => ∃ (fs : List Str) (gl : GL) (vs : List Int), ss = [.val (ordD fs gl), .val (.tup (intL vs))] ∧ (fs.Nodup ∧ fs.length ≤ 1000 ∧ vs.length = fs.length) ∧ Q (.val (.tup (intL (raisedL fs gl vs)))) ss
def sp_lowered : FS := fun ss Q _ => ∃ (fs : List Str) (gl : GL) (vs : List Int), ss = [.val (ordD fs gl), .val (.tup (intL vs))] ∧ (fs.Nodup ∧ fs.length ≤ 1000 ∧ vs.length = fs.length) ∧ Q (.val (.tup (intL (loweredL fs gl vs)))) ss
theorem zip_strs : ∀ (fs : List Str) (vs : List Int), zipG (strL fs) (intL vs) = (fs.zip vs).map prD
  | [], _ => by simp [strL, zipG]
  | _ :: _, [] => by simp [strL, intL, zipG]
  | x :: fs, v :: vs => by
    show D.tup [.str x, .int v] :: zipG (strL fs) (intL vs) = _
    rw [zip_strs fs vs]; rfl
theorem zip_keys {fs : List Str} {vs : List Int} (h : vs.length = fs.length) : (fs.zip vs).map (·.1) = fs := by
  have := List.map_fst_zip (l₁ := fs) (l₂ := vs) (by omega)
  exact this
theorem giv_mem {fs : List Str} {vs : List Int} {n : Str} (h : vs.length = fs.length) (hn : n ∈ fs) : valG (fs.zip vs) n = some (giv fs vs n) := by
  unfold giv
  have : n ∈ (fs.zip vs).map (·.1) := by rw [zip_keys h]; exact hn
  obtain ⟨v, hv⟩ := Option.isSome_iff_exists.mp (valG_isSome.mpr this)
  rw [hv]; rfl
theorem att_fields {fs : List Str} {gl : GL} : valG (ordF fs gl) (Str.ofString "fields") = some (.ftp (strL fs)) := rfl
theorem att_gaps {fs : List Str} {gl : GL} : valG (ordF fs gl) (Str.ofString "gaps") = some (.dT (gd gl)) := rfl
theorem att_under {fs : List Str} {gl : GL} : valG (ordF fs gl) (Str.ofString "under") = some (.dK (undD fs gl)) := rfl
theorem att_over {fs : List Str} {gl : GL} : valG (ordF fs gl) (Str.ofString "over") = some (.dK (ovrD fs gl)) := rfl
theorem und_mem {fs : List Str} {gl : GL} {n : Str} {p : Str × Int} (h : p ∈ undL fs gl n) : p.1 ∈ fs ∧ valG gl (p.1, n) = some p.2 := by
  unfold undL at h
  obtain ⟨x, hx, rfl⟩ := List.mem_map.mp h
  obtain ⟨h1, h2⟩ := List.mem_filter.mp hx
  obtain ⟨v, hv⟩ := Option.isSome_iff_exists.mp h2
  exact ⟨h1, by simp [hv]⟩
theorem ovr_mem {fs : List Str} {gl : GL} {n : Str} {p : Str × Int} (h : p ∈ ovrL fs gl n) : p.1 ∈ fs ∧ valG gl (n, p.1) = some p.2 := by
  unfold ovrL at h
  obtain ⟨x, hx, rfl⟩ := List.mem_map.mp h
  obtain ⟨h1, h2⟩ := List.mem_filter.mp hx
  obtain ⟨v, hv⟩ := Option.isSome_iff_exists.mp h2
  exact ⟨h1, by simp [hv]⟩
theorem und_len {fs : List Str} {gl : GL} {n : Str} : (undL fs gl n).length ≤ fs.length := by unfold undL; rw [List.length_map]; exact List.length_filter_le ..
theorem ovr_len {fs : List Str} {gl : GL} {n : Str} : (ovrL fs gl n).length ≤ fs.length := by unfold ovrL; rw [List.length_map]; exact List.length_filter_le ..
section
variable {Γ : Nat → FS} {ss : List Slot} {Q : Res → List Slot → Prop} {E : Xc → List Slot → Prop}
theorem zip_dict {fs : List Str} {vs : List Int} (nd : fs.Nodup) (h : vs.length = fs.length) : putAll [] (((fs.zip vs).filter fun _ => true).map fun p => ((Sum.inr p.1 : Ky), D.int p.2)) = strK (fs.zip vs) := by
  rw [List.filter_eq_self.mpr (fun _ _ => rfl)]
  exact putAll_nil (strK_keys (by rw [zip_keys h]; exact nd))
theorem ok_raised (h : sp_raised ss Q E) : runD Γ 7 ir_raised ss Q E := by
  obtain ⟨fs, gl, vs, rfl, ⟨nd, hf, hl⟩, q⟩ := h
  have hb : big = 16777216 := rfl
  refine run_of _ rfl rfl (by simp) fun K hr hn he => ?_
  unfold ir_raised ordD
  infer_instance
  refine cons_run (asgN_run ?_)
  infer_instance
  refine dcpK_run (g := none) prD (fs.zip vs) (fun _ => true) (fun p => .inr p.1) (fun p => .int p.2) _ (by rw [List.length_zip]; omega) (fun Q' h => ?_) rfl rfl (noOwn_lit rfl) (fun _ z => nomatch z) (by simp [Tg.slots, Tg.slots.slotsT]) trivial (fun y hy kvs K hk h => ?_) ?_
  · exists att_fields
    rw [zip_strs]; exact h
  · unfold prD
    infer_instance
    exact ⟨hk, h⟩
  rw [zip_dict nd hl]
  infer_instance
  refine cons_run (retN_run ?_)
  infer_instance
  refine lcpM_run (g := none) D.str fs (fun n => .int (maxL (giv fs vs n) ((undL fs gl n).map fun p => giv fs vs p.1 + p.2))) _ (fun Q' h => ?_) rfl rfl (noOwn_lit rfl) (fun _ z => nomatch z) (by simp [Tg.slots, Tg.slots.slotsT]) trivial (fun y hy K h => ?_) ?_
  · exists att_fields
    exact h
  · infer_instance
    rw [giv_mem hl hy]
    infer_instance
    refine lcpM_run (g := none) prD (undL fs gl y) (fun p => .int (giv fs vs p.1 + p.2)) _ (fun Q' h => ?_) rfl rfl (noOwn_lit rfl) (fun _ z => nomatch z) (by simp [Tg.slots, Tg.slots.slotsT]) trivial (fun z hz K h => ?_) ?_
    · exists att_under
      rw [valG_undD hy]
      infer_instance
      exact h
    · unfold prD
      infer_instance
      rw [giv_mem hl (und_mem hz).1]
      infer_instance
      exact h
    · infer_instance
      have e : intsOf (D.int (giv fs vs y) :: (undL fs gl y).map fun p => D.int (giv fs vs p.1 + p.2)) = some (giv fs vs y :: (undL fs gl y).map fun p => giv fs vs p.1 + p.2) := by
        have := ints_map (giv fs vs y :: (undL fs gl y).map fun p => giv fs vs p.1 + p.2)
        rw [List.map_cons, List.map_map] at this
        exact this
      rw [e]
      refine ⟨?_, h⟩
      have := und_len (fs := fs) (gl := gl) (n := y)
      rw [List.length_map]; omega
  · infer_instance
    refine hr _ _ _ rfl ?_
    have e : (fs.map fun n => D.int (maxL (giv fs vs n) ((undL fs gl n).map fun p => giv fs vs p.1 + p.2))) = intL (raisedL fs gl vs) := by
      unfold intL raisedL; rw [List.map_map]; rfl
    rw [e]
    exact q
theorem ok_lowered (h : sp_lowered ss Q E) : runD Γ 7 ir_lowered ss Q E := by
  obtain ⟨fs, gl, vs, rfl, ⟨nd, hf, hl⟩, q⟩ := h
  have hb : big = 16777216 := rfl
  refine run_of _ rfl rfl (by simp) fun K hr hn he => ?_
  unfold ir_lowered ordD
  infer_instance
  refine cons_run (asgN_run ?_)
  infer_instance
  refine dcpK_run (g := none) prD (fs.zip vs) (fun _ => true) (fun p => .inr p.1) (fun p => .int p.2) _ (by rw [List.length_zip]; omega) (fun Q' h => ?_) rfl rfl (noOwn_lit rfl) (fun _ z => nomatch z) (by simp [Tg.slots, Tg.slots.slotsT]) trivial (fun y hy kvs K hk h => ?_) ?_
  · exists att_fields
    rw [zip_strs]; exact h
  · unfold prD
    infer_instance
    exact ⟨hk, h⟩
  rw [zip_dict nd hl]
  infer_instance
  refine cons_run (retN_run ?_)
  infer_instance
  refine lcpM_run (g := none) D.str fs (fun n => .int (minL (giv fs vs n) ((ovrL fs gl n).map fun p => giv fs vs p.1 - p.2))) _ (fun Q' h => ?_) rfl rfl (noOwn_lit rfl) (fun _ z => nomatch z) (by simp [Tg.slots, Tg.slots.slotsT]) trivial (fun y hy K h => ?_) ?_
  · exists att_fields
    exact h
  · infer_instance
    rw [giv_mem hl hy]
    infer_instance
    refine lcpM_run (g := none) prD (ovrL fs gl y) (fun p => .int (giv fs vs p.1 - p.2)) _ (fun Q' h => ?_) rfl rfl (noOwn_lit rfl) (fun _ z => nomatch z) (by simp [Tg.slots, Tg.slots.slotsT]) trivial (fun z hz K h => ?_) ?_
    · exists att_over
      rw [valG_ovrD hy]
      infer_instance
      exact h
    · unfold prD
      infer_instance
      rw [giv_mem hl (ovr_mem hz).1]
      infer_instance
      exact h
    · infer_instance
      have e : intsOf (D.int (giv fs vs y) :: (ovrL fs gl y).map fun p => D.int (giv fs vs p.1 - p.2)) = some (giv fs vs y :: (ovrL fs gl y).map fun p => giv fs vs p.1 - p.2) := by
        have := ints_map (giv fs vs y :: (ovrL fs gl y).map fun p => giv fs vs p.1 - p.2)
        rw [List.map_cons, List.map_map] at this
        exact this
      rw [e]
      refine ⟨?_, h⟩
      have := ovr_len (fs := fs) (gl := gl) (n := y)
      rw [List.length_map]; omega
  · infer_instance
    refine hr _ _ _ rfl ?_
    have e : (fs.map fun n => D.int (minL (giv fs vs n) ((ovrL fs gl n).map fun p => giv fs vs p.1 - p.2))) = intL (loweredL fs gl vs) := by
      unfold intL loweredL; rw [List.map_map]; rfl
    rw [e]
    exact q
end
/-! ### drawing -/
def lim9 : Int := 2 ^ 8000
def sp_take : FS := fun ss Q _ => ∃ m : Int, ss = [.own .draw, .val (.int m)] ∧ (0 < m ∧ m < lim9) ∧ ∀ r, 0 ≤ r → r < m → Q (.val (.int r)) ss
def sp_pick : FS := fun ss Q _ => ∃ ds : List D, ss = [.own .draw, .val (.lst ds)] ∧ (ds ≠ [] ∧ ds.length ≤ big) ∧ ∀ d ∈ ds, Q (.val d) ss
def sp_value : FS := fun ss Q _ => ss = [.own .draw] ∧ ∀ i : Int, Q (.val (.int i)) ss
def sp_names : FS := fun ss Q _ => ∃ n : Nat, ss = [.own .draw, .val (.int n)] ∧ n ≤ 7 ∧ ∀ fs : List Str, fs.length = n → okNames fs = true → Q (.own (.lst (strL fs))) ss
theorem big_lim {n : Nat} (h : n ≤ big) : (n : Int) < lim9 := by
  have h1 : (n : Int) ≤ 16777216 := by have : big = 16777216 := rfl; omega
  have h2 : (16777216 : Int) < lim9 := by unfold lim9; decide +kernel
  omega
theorem at_some {α : Type} {xs : List α} {i : Int} (h0 : 0 ≤ i) (h1 : i < xs.length) : ∃ x, atG xs i = some x ∧ x ∈ xs ∧ xs[i.toNat]? = some x := by
  have hi : i.toNat < xs.length := by omega
  refine ⟨xs[i.toNat], ?_, List.getElem_mem _, by simp [hi]⟩
  unfold atG ixG
  rw [if_pos h0, if_pos h1]
  show xs[i.toNat]? = _
  simp [hi]
section
variable {Γ : Nat → FS} {ss : List Slot} {Q : Res → List Slot → Prop} {E : Xc → List Slot → Prop}
theorem ok_pick (h301 : Γ 301 = sp_take) (h : sp_pick ss Q E) : runD Γ 2 ir_law_pick ss Q E := by
  obtain ⟨ds, rfl, ⟨h0, hl⟩, q⟩ := h
  refine run_of _ rfl rfl (by simp) fun K hr hn he => ?_
  unfold ir_law_pick
  infer_instance
  refine cons_run (retN_run ?_)
  infer_instance
  rw [h301]
  have hp : 0 < ds.length := List.length_pos_iff.mpr h0
  refine ⟨_, rfl, ⟨by omega, big_lim hl⟩, fun r r0 r1 => ?_⟩
  infer_instance
  obtain ⟨d, e, hm, _⟩ := at_some r0 r1
  rw [e]
  infer_instance
  exact hr _ _ _ rfl (q d hm)
theorem ok_value (h301 : Γ 301 = sp_take) (h302 : Γ 302 = sp_pick) (h : sp_value ss Q E) : runD Γ 4 ir_law_value ss Q E := by
  obtain ⟨rfl, q⟩ := h
  refine run_of _ rfl rfl (by simp) fun K hr hn he => ?_
  unfold ir_law_value
  infer_instance
  refine cons_run (par_run ?_)
  infer_instance
  rw [h302]
  refine ⟨_, rfl, ⟨by simp, by decide⟩, fun d hd => ?_⟩
  obtain ⟨sz, rfl, hz⟩ : ∃ sz : Int, d = .int sz ∧ 12 ≤ sz ∧ sz ≤ 10 ^ 30 := by
    simp only [List.mem_cons, List.not_mem_nil, or_false] at hd
    rcases hd with rfl | rfl | rfl | rfl | rfl | rfl <;> exact ⟨_, rfl, by decide, by decide⟩
  infer_instance
  rw [h301]
  refine ⟨2, rfl, ⟨by decide, by decide +kernel⟩, fun sg g0 g1 => ?_⟩
  infer_instance
  refine cons_run (asgN_run ?_)
  infer_instance
  rw [h301]
  have l9 : (10 : Int) ^ 31 < lim9 := by unfold lim9; decide +kernel
  have e30 : (10 : Int) ^ 30 < 10 ^ 31 := by decide
  refine ⟨_, rfl, ?_, fun a a0 a1 => ?_⟩
  · split <;> omega
  infer_instance
  refine cons_run (if_run ?_)
  infer_instance
  split
  · rename_i hs
    refine cons_run (asgN_run ?_)
    infer_instance
    have hd : sz.fdiv 100000000 = sz / 100000000 := Int.fdiv_eq_ediv_of_nonneg _ (by decide)
    have hd1 : sz / 100000000 < 2 ^ 80 := by
      have : (10 : Int) ^ 30 / 100000000 < 2 ^ 80 := by decide
      omega
    have hd0 : 0 < sz / 100000000 := by omega
    rw [hd]
    have ha : a < 2 ^ 64 := by
      have : (if (100000000 : Int) < sz then (100000000 : Int) else sz) + 1 ≤ 100000001 := by split <;> omega
      omega
    refine ⟨.inl ⟨by omega, ha⟩, ?_⟩
    rw [h301]
    refine ⟨_, rfl, ⟨hd0, by omega⟩, fun b b0 b1 => ?_⟩
    infer_instance
    refine nil_run ?_
    refine cons_run (retN_run ?_)
    infer_instance
    exact ⟨by first | (left; trivial) | (left; omega) | (right; omega), .inr (by omega), hr _ _ _ rfl (q _)⟩
  · refine nil_run ?_
    refine cons_run (retN_run ?_)
    infer_instance
    exact ⟨by first | (left; trivial) | (left; omega) | (right; omega), .inr (by omega), hr _ _ _ rfl (q _)⟩
/-! ### names -/
theorem str_ext {x y : Str} (h : x.cps.toList = y.cps.toList) : x = y := by
  obtain ⟨⟨x⟩⟩ := x
  obtain ⟨⟨y⟩⟩ := y
  cases h; rfl
theorem app_toList {x y : Str} : (x ++ y).cps.toList = x.cps.toList ++ y.cps.toList := Array.toList_append
theorem join_cs : ∀ cs : List Nat, Str.join (Str.ofString "") (cs.map fun c => ⟨#[c]⟩) = ⟨cs.toArray⟩
  | [] => rfl
  | [c] => rfl
  | c :: d :: cs => by
    have ih := join_cs (d :: cs)
    refine str_ext ?_
    show ((⟨#[c]⟩ : Str) ++ Str.ofString "" ++ Str.join (Str.ofString "") ((d :: cs).map fun c => ⟨#[c]⟩)).cps.toList = _
    rw [ih, app_toList, app_toList]; rfl
theorem mth_join {sep : Str} {l : List Str} {Q : Res → Prop} : mthW .join (.str sep) [.lst (strL l)] Q = ((l.map fun x : Str => x.length).sum + l.length * sep.length ≤ big ∧ Q (.val (.str (Str.join sep l)))) := by
  show (match strsOf (strL l) with | some ss => (ss.map fun x : Str => x.length).sum + ss.length * sep.length ≤ big ∧ Q (.val (.str (Str.join sep ss))) | none => False) = _
  rw [strs_map]
def eight : List Nat := (Str.ofString "abcdefgh").cps.toList
def spare (w : Str) : List Str := w :: eight.map fun c => cutStr w none (some 7) ++ ⟨#[c]⟩
theorem names_spare {cs : List Nat} (hc : ∀ c ∈ cs, c ∈ letters.cps.toList) (h1 : 1 ≤ cs.length) (h2 : cs.length ≤ 8) {w : Str} (ew : w = ⟨cs.toArray⟩) :
    (∀ fs : List Str, (∀ x ∈ spare w, x ∈ fs) → 8 ≤ fs.length) ∧ (∀ x ∈ spare w, isNameB x = true) ∧ ∀ c ∈ eight, (cutStr w none (some 7) ++ (⟨#[c]⟩ : Str)).length ≤ 8 := by
  have e7 : cutG cs none (some 7) = cs.take 7 := by
    unfold cutG sIxG
    simp only [List.drop_zero, Nat.sub_zero]
    show cs.take (min 7 cs.length) = _
    by_cases h : cs.length ≤ 7
    · rw [Nat.min_eq_right h, List.take_length, List.take_of_length_le h]
    · rw [Nat.min_eq_left (by omega)]
  have ev : ∀ c, (cutStr w none (some 7) ++ (⟨#[c]⟩ : Str)).cps.toList = cs.take 7 ++ [c] := fun c => by
    rw [app_toList, ew]
    show cutG cs none (some 7) ++ [c] = _
    rw [e7]
  have he : ∀ c ∈ eight, c ∈ letters.cps.toList := by decide +kernel
  have hl : ∀ c, (cutStr w none (some 7) ++ (⟨#[c]⟩ : Str)).length = min 7 cs.length + 1 := fun c => by
    unfold Str.length
    rw [← Array.length_toList, ev, List.length_append, List.length_take]; rfl
  refine ⟨fun fs h => ?_, fun x hx => ?_, fun c hc => by rw [hl]; omega⟩
  · have nd : (eight.map fun c => cutStr w none (some 7) ++ (⟨#[c]⟩ : Str)).Nodup := by
      have : eight.Nodup := by decide +kernel
      refine this.map _ fun a b hab e => hab ?_
      have := congrArg (fun z : Str => z.cps.toList) e
      simp only [ev] at this
      simpa using this
    have := sub_len nd fun x hx => h x (List.mem_cons_of_mem _ hx)
    rw [List.length_map] at this
    exact this
  · unfold isNameB
    rcases List.mem_cons.mp hx with rfl | hx
    · subst ew
      have e1 : (⟨cs.toArray⟩ : Str).length = cs.length := rfl
      simp only [e1, h1, h2, decide_true, Bool.true_and, List.all_eq_true, decide_eq_true_eq]
      exact hc
    · obtain ⟨c, hm, rfl⟩ := List.mem_map.mp hx
      rw [hl, ev]
      have a1 : 1 ≤ min 7 cs.length + 1 := by omega
      have a2 : min 7 cs.length + 1 ≤ 8 := by omega
      simp only [a1, a2, decide_true, Bool.true_and, List.all_eq_true, decide_eq_true_eq]
      intro x hx
      rcases List.mem_append.mp hx with h | h
      · exact hc x (List.mem_of_mem_take h)
      · simp at h; subst h; exact he x hm
theorem ok_names (h301 : Γ 301 = sp_take) (h302 : Γ 302 = sp_pick) (h : sp_names ss Q E) : runD Γ 10 ir_law_names ss Q E := by
  obtain ⟨n, rfl, hn7, q⟩ := h
  have hb : big = 16777216 := rfl
  refine run_of _ rfl rfl (by simp) fun K hr hn he => ?_
  unfold ir_law_names
  infer_instance
  refine cons_run (asgN_run ?_)
  infer_instance
  refine cons_run (for_run (g := none) (fun _ k => .int (0 + (k : Nat))) (List.range n) (fun p ρ => ∃ fs s3 s4 s5 s6, ρ = [.own .draw, .val (.int n), .own (.lst (strL fs)), s3, s4, s5, s6, .non, .non, .non] ∧ fs.length = p.length ∧ okNames fs = true) (fun Q' h => ?_) (fun _ z => nomatch z) ⟨[], .non, .non, .non, .non, rfl, rfl, rfl⟩ (fun _ _ _ => trivial) (fun p y r ρ e ⟨fs, s3, s4, s5, s6, eρ, hl, ok⟩ => ?_) fun ρ ⟨fs, s3, s4, s5, s6, eρ, hl, ok⟩ => ?_)
  · infer_instance
    refine ⟨by omega, ?_⟩
    unfold rngG
    rw [Int.toNat_natCast, goI_map _ 0]
    exact h
  · subst eρ
    refine ⟨_, rfl, fun K1 k1 k2 k3 k4 k5 => cons_run (asgN_run ?_)⟩
    infer_instance
    rw [h301]
    refine ⟨8, rfl, ⟨by decide, by decide +kernel⟩, fun lg g0 g1 => ?_⟩
    infer_instance
    refine cons_run (asgN_run ?_)
    infer_instance
    refine lcpD_run (g := none) (fun k : Nat => .int (0 + (k : Nat))) (List.range (1 + lg).toNat) (fun d => ∃ c ∈ letters.cps.toList, d = .str ⟨#[c]⟩) _ (fun Q' h => ?_) rfl rfl (noOwn_lit rfl) (fun _ z => nomatch z) (by simp [Tg.slots, Tg.slots.slotsT]) trivial (fun z hz K h => ?_) fun ds hdl hds => ?_
    · infer_instance
      exact ⟨by omega, h⟩
    · infer_instance
      rw [h302]
      refine ⟨by decide, _, rfl, ⟨by decide, by decide⟩, fun d hd => ?_⟩
      infer_instance
      obtain ⟨c, hc, rfl⟩ := List.mem_map.mp hd
      exact h _ ⟨c, hc, rfl⟩
    obtain ⟨cs, hcs, rfl⟩ : ∃ cs : List Nat, (∀ c ∈ cs, c ∈ letters.cps.toList) ∧ ds = strL (cs.map fun c => ⟨#[c]⟩) := by
      clear hdl
      induction ds with
      | nil => exact ⟨[], by simp, rfl⟩
      | cons d ds ih =>
        obtain ⟨cs, h1, h2⟩ := ih fun d hd => hds d (by simp [hd])
        obtain ⟨c, hc, rfl⟩ := hds d (by simp)
        exact ⟨c :: cs, fun x hx => by rcases List.mem_cons.mp hx with rfl | hx; exact hc; exact h1 x hx, by rw [h2]; rfl⟩
    have hcl : cs.length = (1 + lg).toNat := by simpa [strL] using hdl
    infer_instance
    rw [mth_join, join_cs]
    refine ⟨?_, ?_⟩
    · have : ((cs.map fun c => (⟨#[c]⟩ : Str)).map fun x : Str => x.length).sum = cs.length := by
        clear hcs hcl hdl hds
        induction cs with
        | nil => rfl
        | cons c cs ih => rw [List.map_cons, List.map_cons, List.sum_cons, ih, List.length_cons, Nat.add_comm]; rfl
      rw [this, show (Str.ofString "").length = 0 from rfl]
      omega
    infer_instance
    have hw := names_spare hcs (by omega) (by omega) (w := ⟨cs.toArray⟩) rfl
    refine cons_run (asgN_run ?_)
    infer_instance
    refine lcpM_run (g := none) (fun c => .str ⟨#[c]⟩) eight (fun c => .str (cutStr ⟨cs.toArray⟩ none (some 7) ++ ⟨#[c]⟩)) _ (fun Q' h => ?_) rfl rfl (noOwn_lit rfl) (fun _ z => nomatch z) (by simp [Tg.slots, Tg.slots.slotsT]) trivial (fun z hz K h => ?_) ?_
    · infer_instance
      rw [if_pos (by decide)]
      exact h
    · infer_instance
      refine ⟨?_, ?_, h⟩
      · show cs.length ≤ big
        omega
      · have := hw.2.2 z hz
        have e2 : (cutStr ⟨cs.toArray⟩ none (some 7)).length + (⟨#[z]⟩ : Str).length = (cutStr ⟨cs.toArray⟩ none (some 7) ++ ⟨#[z]⟩).length := by
          unfold Str.length
          rw [← Array.length_toList, ← Array.length_toList, ← Array.length_toList, app_toList, List.length_append]
        rw [e2]
        omega
    infer_instance
    rw [show (D.str ⟨cs.toArray⟩ :: eight.map fun c => D.str (cutStr ⟨cs.toArray⟩ none (some 7) ++ ⟨#[c]⟩)) = strL (spare ⟨cs.toArray⟩) by unfold spare strL; rw [List.map_cons, List.map_map]; rfl]
    refine ⟨by rw [List.length_map]; decide, ?_⟩
    refine cons_run (exp_run ?_)
    infer_instance
    refine lcp_run (g := none) D.str (spare ⟨cs.toArray⟩) (fun x => !decide (x ∈ fs)) D.str _ (fun Q' h => ?_) rfl rfl (noOwn_lit rfl) (fun _ z => nomatch z) (by simp [Tg.slots, Tg.slots.slotsT]) trivial (fun z hz K h => ?_) ?_
    · infer_instance
      exact h
    · infer_instance
      rw [strs_plain, strs_dep, inG_str]
      infer_instance
      exact k_ite h
    obtain ⟨x, xs, ex, h1, h2⟩ : ∃ x xs, (spare ⟨cs.toArray⟩).filter (fun x => !decide (x ∈ fs)) = x :: xs ∧ isNameB x = true ∧ x ∉ fs := by
      cases ef : (spare ⟨cs.toArray⟩).filter (fun x => !decide (x ∈ fs)) with
      | nil =>
        exfalso
        have := hw.1 fs fun z hz => by
          by_cases hm : z ∈ fs
          · exact hm
          · have : z ∈ (spare ⟨cs.toArray⟩).filter (fun x => !decide (x ∈ fs)) := List.mem_filter.mpr ⟨hz, by simpa using hm⟩
            rw [ef] at this
            cases this
        have : p.length < n := by
          have := congrArg List.length e
          simp at this
          omega
        omega
      | cons x xs =>
        have : x ∈ (spare ⟨cs.toArray⟩).filter (fun x => !decide (x ∈ fs)) := by rw [ef]; simp
        obtain ⟨a, b⟩ := List.mem_filter.mp this
        exact ⟨x, xs, rfl, hw.2.1 x a, by simpa using b⟩
    rw [ex]
    infer_instance
    rw [atG_zero]
    infer_instance
    have hpn : p.length < n := by
      have := congrArg List.length e
      simp at this
      omega
    have hfl : (strL fs).length < big := by unfold strL; rw [List.length_map, hl]; omega
    rw [show strL fs ++ [D.str x] = strL (fs ++ [x]) by unfold strL; rw [List.map_append]; rfl]
    refine ⟨hfl, nil_run (k5 _ ⟨fs ++ [x], _, _, _, _, rfl, by simp [hl], ?_⟩)⟩
    · unfold okNames at ok ⊢
      simp only [Bool.and_eq_true, decide_eq_true_eq, List.all_eq_true] at ok ⊢
      refine ⟨fun z hz => ?_, List.nodup_append.mpr ⟨ok.2, by simp, fun a ha b hb e => ?_⟩⟩
      · rcases List.mem_append.mp hz with h | h
        · exact ok.1 z h
        · simp at h; subst h; exact h1
      · simp at hb; subst hb; subst e; exact h2 ha
  · subst eρ
    refine cons_run (retN_run ?_)
    infer_instance
    exact hr _ _ _ rfl (q fs (by rw [hl]; simp) ok)
end
/-! ### _law_order -/
def Before (line : List Str) (a b : Str) : Prop := ∃ i j : Nat, i < j ∧ line[i]? = some a ∧ line[j]? = some b
structure HOk (fs : List Str) (ls : List Lim) (line : List Str) : Prop where
  nm : okNames fs = true
  pm : line.Perm fs
  lm : ∀ l ∈ ls, Before line l.1 l.2.1 ∧ 0 ≤ l.2.2 ∧ l.2.2 < 1000
def houseK (fs : List Str) (ls : List Lim) (line : List Str) : List (Ky × D) := [(.inr "fields", .lst (strL fs)), (.inr "limits", .lst (lims ls)), (.inr "line", .lst (strL line))]
def sp_order : FS := fun ss Q _ => ∃ a b m : Nat, ss = [.own .draw, .val (.int a), .val (.int b), .val (.int m)] ∧ (a ≤ b ∧ b ≤ 7 ∧ m ≤ 1000) ∧ ∀ fs ls line, HOk fs ls line → a ≤ fs.length → fs.length ≤ b → ls.length ≤ m → Q (.own (.dK (houseK fs ls line))) ss
theorem small_lim {n : Int} (h : n ≤ 1000000) : n < lim9 := by
  have h2 : (1000000 : Int) < lim9 := by unfold lim9; decide +kernel
  omega
theorem strs_len {fs : List Str} : (strL fs).length = fs.length := by unfold strL; rw [List.length_map]
theorem lims_len {fs : List Lim} : (lims fs).length = fs.length := by unfold lims; rw [List.length_map]
theorem strs_atI {fs : List Str} {i : Int} (h0 : 0 ≤ i) (h1 : i < fs.length) : ∃ x, atG (strL fs) i = some (.str x) ∧ fs[i.toNat]? = some x := by
  obtain ⟨d, e, _, e2⟩ := at_some (xs := strL fs) h0 (by rw [strs_len]; exact h1)
  unfold strL at e2
  rw [List.getElem?_map] at e2
  cases h : fs[i.toNat]? with
  | none => rw [h] at e2; cases e2
  | some x => rw [h] at e2; cases e2; exact ⟨x, e, rfl⟩
theorem take_strs {fs : List Str} {n : Nat} : (strL fs).take n = strL (fs.take n) := by unfold strL; rw [List.map_take]
theorem drop_strs {fs : List Str} {n : Nat} : (strL fs).drop n = strL (fs.drop n) := by unfold strL; rw [List.map_drop]
theorem app_strs {a b : List Str} : strL a ++ strL b = strL (a ++ b) := by unfold strL; rw [List.map_append]
section
variable {Γ : Nat → FS} {ss : List Slot} {Q : Res → List Slot → Prop} {E : Xc → List Slot → Prop}
theorem ok_order (h301 : Γ 301 = sp_take) (h302 : Γ 302 = sp_pick) (h304 : Γ 304 = sp_names) (h : sp_order ss Q E) : runD Γ 11 ir_law_order ss Q E := by
  obtain ⟨a, b, m, rfl, ⟨hab, hb7, hm⟩, q⟩ := h
  have hb : big = 16777216 := rfl
  refine run_of _ rfl rfl (by simp) fun K hr hn he => ?_
  unfold ir_law_order
  infer_instance
  refine cons_run (asgN_run ?_)
  infer_instance
  rw [h301]
  refine ⟨_, rfl, ⟨by omega, small_lim (by omega)⟩, fun r r0 r1 => ?_⟩
  infer_instance
  rw [h304]
  refine ⟨a + r.toNat, by rw [show ((a + r.toNat : Nat) : Int) = (a : Int) + r by omega], by omega, fun fs hfl hnm => ?_⟩
  infer_instance
  refine cons_run (asgN_run ?_)
  infer_instance
  have nd : fs.Nodup := by unfold okNames at hnm; simp at hnm; exact hnm.2
  refine cons_run (forM_run (g := none) D.str fs (fun p ρ => ∃ line s6, ρ = [.own .draw, .val (.int a), .val (.int b), .val (.int m), .val (.lst (strL fs)), .own (.lst (strL line)), s6, .non, .non, .non, .non] ∧ line.Perm p) (fun Q' h => ?_) (fun _ z => nomatch z) ⟨[], .non, rfl, .refl _⟩ (fun _ _ _ => trivial) (fun p y r ρ e ⟨line, s6, eρ, hp⟩ => ?_) fun ρ ⟨line, s6, eρ, hp⟩ => ?_)
  · infer_instance
    exact h
  · subst eρ
    refine ⟨_, rfl, fun K1 k1 k2 k3 k4 k5 => cons_run (exp_run ?_)⟩
    have hpl : line.length ≤ 7 := by
      have h1 := hp.length_eq
      have h2 := congrArg List.length e
      simp at h2
      omega
    exists strs_len
    rw [h301]
    refine ⟨_, rfl, ⟨by omega, small_lim (by omega)⟩, fun i i0 i1 => ?_⟩
    exists strs_len
    refine ⟨⟨by omega, i0, by omega⟩, ?_⟩
    rw [take_strs, drop_strs, show [D.str y] = strL [y] from rfl, app_strs, app_strs]
    refine nil_run (k5 _ ⟨_, _, rfl, ?_⟩)
    have : (line.take i.toNat ++ [y] ++ line.drop i.toNat).Perm (y :: line) := by
      rw [List.append_assoc]
      have h1 : (line.take i.toNat ++ y :: line.drop i.toNat).Perm (y :: (line.take i.toNat ++ line.drop i.toNat)) := List.perm_middle
      rw [List.take_append_drop] at h1
      exact h1
    refine this.trans ((List.Perm.cons y hp).trans ?_)
    exact (List.perm_append_singleton y p).symm
  · subst eρ
    have hll : line.length = fs.length := hp.length_eq
    refine cons_run (asgN_run ?_)
    infer_instance
    refine cons_run (?_ : wpS Γ (.for _ _ _) _ _)
    rw [wpS]
    infer_instance
    rw [h301]
    refine ⟨_, rfl, ⟨by omega, small_lim (by omega)⟩, fun k k0 k1 => ?_⟩
    exists strs_len
    obtain ⟨N, hN, hN1, hN2⟩ : ∃ N : Nat, (k * if (1 : Int) < fs.length then 1 else 0) = N ∧ N ≤ m ∧ (0 < N → 1 < fs.length) := by
      by_cases c : (1 : Int) < fs.length
      · rw [if_pos c]; exact ⟨k.toNat, by omega, by omega, fun _ => by omega⟩
      · rw [if_neg c]; exact ⟨0, by omega, by omega, fun h => absurd h (by decide)⟩
    refine ⟨.inr (by split <;> omega), ⟨by omega, by omega⟩, (fun _ z => nomatch z), ?_⟩
    rw [hN, Int.toNat_natCast]
    unfold rngG
    refine forL_map (fun k : Nat => .int (0 + (k : Nat))) (List.range N) (fun p ρ => ∃ ls s8 s9 s10, ρ = [.own .draw, .val (.int a), .val (.int b), .val (.int m), .val (.lst (strL fs)), .own (.lst (strL line)), s6, .own (.lst (lims ls)), s8, s9, s10] ∧ ls.length = p.length ∧ ∀ l ∈ ls, Before line l.1 l.2.1 ∧ 0 ≤ l.2.2 ∧ l.2.2 < 1000) (fun _ _ _ => trivial) ⟨[], .non, .non, .non, rfl, rfl, by simp⟩ (fun p y r ρ e ⟨ls, s8, s9, s10, eρ, hl, hls⟩ => ?_) fun ρ ⟨ls, s8, s9, s10, eρ, hl, hls⟩ => ?_
    · subst eρ
      have hpN : p.length < N := by
        have := congrArg List.length e
        simp at this
        omega
      have h1f := hN2 (by omega)
      refine ⟨_, rfl, fun K1 k1 k2 k3 k4 k5 => cons_run (asgN_run ?_)⟩
      exists strs_len
      rw [h301]
      refine ⟨_, rfl, ⟨by omega, small_lim (by omega)⟩, fun i i0 i1 => ?_⟩
      infer_instance
      refine cons_run (asgN_run ?_)
      exists strs_len
      rw [h301]
      refine ⟨_, rfl, ⟨by omega, small_lim (by omega)⟩, fun j j0 j1 => ?_⟩
      infer_instance
      refine cons_run (exp_run ?_)
      infer_instance
      obtain ⟨x, e1, e2⟩ := strs_atI (fs := line) (i := i) i0 (by omega)
      obtain ⟨z, e3, e4⟩ := strs_atI (fs := line) (i := i + 1 + j) (by omega) (by omega)
      rw [e1]
      infer_instance
      rw [e3]
      infer_instance
      rw [h302]
      refine ⟨_, rfl, ⟨by simp, by decide⟩, fun d hd => ?_⟩
      obtain ⟨gz, rfl, g1, g2⟩ : ∃ gz : Int, d = .int gz ∧ 0 < gz ∧ gz ≤ 1000 := by
        simp only [List.mem_cons, List.not_mem_nil, or_false] at hd
        rcases hd with rfl | rfl | rfl | rfl <;> exact ⟨_, rfl, by decide, by decide⟩
      infer_instance
      rw [h301]
      refine ⟨_, rfl, ⟨g1, small_lim (by omega)⟩, fun gg gg0 gg1 => ?_⟩
      exists lims_len
      rw [show lims ls ++ [D.tup [D.str x, D.str z, D.int gg]] = lims (ls ++ [(x, z, gg)]) by unfold lims; rw [List.map_append]; rfl]
      refine ⟨by omega, nil_run (k5 _ ⟨ls ++ [(x, z, gg)], _, _, _, rfl, by simp [hl], fun l hm => ?_⟩)⟩
      · rcases List.mem_append.mp hm with h | h
        · exact hls l h
        · simp at h; subst h
          exact ⟨⟨_, _, by omega, e2, e4⟩, gg0, by show gg < 1000; omega⟩
    · subst eρ
      refine cons_run (retN_run ?_)
      infer_instance
      refine ⟨by show 3 ≤ 15; decide, hr _ _ _ rfl ?_⟩
      exact q fs ls line ⟨hnm, hp, hls⟩ (by omega) (by omega) (by rw [hl]; simpa using hN1)
end
/-! ### greatest lengths of paths -/
inductive Path (ls : List Lim) : Str → Str → Int → Prop
  | one {a b : Str} {n : Int} : (a, b, n) ∈ ls → Path ls a b n
  | cons {a c b : Str} {n m : Int} : (a, c, n) ∈ ls → Path ls c b m → Path ls a b (n + m)
theorem Path.mono {ls ms : List Lim} (h : ∀ l ∈ ls, l ∈ ms) {a b : Str} {n : Int} (p : Path ls a b n) : Path ms a b n := by
  induction p with
  | one e => exact .one (h _ e)
  | cons e _ ih => exact .cons (h _ e) ih
theorem Path.append {ls : List Lim} {a b c : Str} {n m : Int} (p : Path ls a b n) (q : Path ls b c m) : Path ls a c (n + m) := by
  induction p with
  | one e => exact .cons e q
  | cons e _ ih => rw [Int.add_assoc]; exact .cons e (ih q)
theorem Path.last {ls : List Lim} {a b : Str} {n : Int} (p : Path ls a b n) : ∃ m g, (m, b, g) ∈ ls ∧ ((m = a ∧ n = g) ∨ ∃ k, Path ls a m k ∧ n = k + g) := by
  induction p with
  | @one a b n e => exact ⟨a, n, e, .inl ⟨rfl, rfl⟩⟩
  | @cons a c b n m e _ ih =>
    obtain ⟨x, g, h1, h2⟩ := ih
    rcases h2 with ⟨rfl, rfl⟩ | ⟨k, h3, rfl⟩
    · exact ⟨_, _, h1, .inr ⟨n, .one e, rfl⟩⟩
    · exact ⟨x, g, h1, .inr ⟨n + k, .cons e h3, by omega⟩⟩
theorem Path.first {ls : List Lim} {a b : Str} {n : Int} (p : Path ls a b n) : ∃ m g, (a, m, g) ∈ ls ∧ ((m = b ∧ n = g) ∨ ∃ k, Path ls m b k ∧ n = g + k) := by
  cases p with
  | one e => exact ⟨_, _, e, .inl ⟨rfl, rfl⟩⟩
  | cons e q => exact ⟨_, _, e, .inr ⟨_, q, rfl⟩⟩
structure GInv (fs : List Str) (ls : List Lim) (gl : GL) : Prop where
  ok : GOk fs gl
  snd : ∀ a b m, valG gl (a, b) = some m → Path ls a b m
  lim : ∀ a b n, (a, b, n) ∈ ls → ∃ m, valG gl (a, b) = some m ∧ n ≤ m
  cls : ∀ a b c x y, valG gl (a, b) = some x → valG gl (b, c) = some y → ∃ z, valG gl (a, c) = some z ∧ x + y ≤ z
  irr : ∀ a, valG gl (a, a) = none
  nn : ∀ p m, valG gl p = some m → 0 ≤ m
theorem GInv.nil {fs : List Str} : GInv fs [] [] := ⟨GOk.nil, fun _ _ _ h => (by cases h), fun _ _ _ h => (by cases h), fun _ _ _ _ _ h => (by cases h), fun _ => rfl, fun _ _ h => (by cases h)⟩
theorem GInv.path {fs : List Str} {ls : List Lim} {gl : GL} (h : GInv fs ls gl) {a b : Str} {n : Int} (p : Path ls a b n) : ∃ m, valG gl (a, b) = some m ∧ n ≤ m := by
  induction p with
  | one e => exact h.lim _ _ _ e
  | cons e _ ih =>
    obtain ⟨x, hx, h1⟩ := h.lim _ _ _ e
    obtain ⟨y, hy, h2⟩ := ih
    obtain ⟨z, hz, h3⟩ := h.cls _ _ _ _ _ hx hy
    exact ⟨z, hz, by omega⟩
theorem valG_filterMap {fs : List Str} {p : Str → Bool} {f : Str → Int} {x : Str} : valG ((fs.filter p).map fun y => (y, f y)) x = if x ∈ fs ∧ p x = true then some (f x) else none := by
  induction fs with
  | nil => simp [valG_nil]
  | cons y fs ih =>
    rw [List.filter_cons]
    by_cases hp : p y = true
    · rw [if_pos hp, List.map_cons, valG_cons, ih]
      by_cases e : y = x
      · subst e; simp [hp]
      · have : ¬ x = y := fun z => e z.symm
        simp [e, this]
    · rw [if_neg hp, ih]
      by_cases e : x = y
      · subst e; simp [hp]
      · simp [e]
theorem valG_sideL {fs : List Str} {gl : GL} {lo x : Str} : valG (sideL fs gl lo) x = if x ∈ fs ∧ (x = lo ∨ (valG gl (x, lo)).isSome = true) then some ((valG gl (x, lo)).getD 0) else none := by
  unfold sideL
  rw [valG_filterMap]
  simp
theorem valG_sideR {fs : List Str} {gl : GL} {hi x : Str} : valG (sideR fs gl hi) x = if x ∈ fs ∧ (x = hi ∨ (valG gl (hi, x)).isSome = true) then some ((valG gl (hi, x)).getD 0) else none := by
  unfold sideR
  rw [valG_filterMap]
  simp
theorem mem_ways {fs : List Str} {gl : GL} {lo hi : Str} {g : Int} {a b : Str} {w : Int} (nd : fs.Nodup) : valG (waysL fs gl lo hi g) (a, b) = some w ↔ ∃ x y, valG (sideL fs gl lo) a = some x ∧ valG (sideR fs gl hi) b = some y ∧ w = x + g + y := by
  constructor
  · intro h
    have := valG_some_mem h
    unfold waysL at this
    obtain ⟨p, hp, hq⟩ := List.mem_flatMap.mp this
    obtain ⟨q, hq2, e⟩ := List.mem_map.mp hq
    cases e
    exact ⟨p.2, q.2, valG_of_mem (sideL_keys nd) hp, valG_of_mem (sideR_keys nd) hq2, rfl⟩
  · rintro ⟨x, y, h1, h2, rfl⟩
    refine valG_of_mem (waysL_keys nd) ?_
    unfold waysL
    exact List.mem_flatMap.mpr ⟨(a, x), valG_some_mem h1, List.mem_map.mpr ⟨(b, y), valG_some_mem h2, rfl⟩⟩
theorem valG_selfMap {ps : List (Str × Str)} {f : Str × Str → Int} {p : Str × Str} : valG (putAll [] (ps.map fun p => (p, f p))) p = if p ∈ ps then some (f p) else none := by
  rw [valG_putAll]
  have : ∀ qs : List (Str × Str), valG (qs.map fun p => (p, f p)) p = if p ∈ qs then some (f p) else none := fun qs => by
    induction qs with
    | nil => simp [valG_nil]
    | cons q qs ih =>
      rw [List.map_cons, valG_cons, ih]
      by_cases e : q = p
      · subst e; simp
      · have : ¬ p = q := fun z => e z.symm
        simp [e, this]
  rw [← List.map_reverse, this]
  by_cases h : p ∈ ps
  · simp [h]
  · simp [h, valG_nil]
/-- the gaps behind one more limit -/
theorem valG_widen {fs : List Str} {gl : GL} {lo hi : Str} {g : Int} {p : Str × Str} : valG (widenL fs gl lo hi g) p = if (valG gl p).isSome = true ∨ (valG (waysL fs gl lo hi g) p).isSome = true then some (mx ((valG gl p).getD 0) ((valG (waysL fs gl lo hi g) p).getD 0)) else none := by
  unfold widenL
  rw [valG_selfMap]
  congr 1
  rw [List.mem_append, valG_isSome, valG_isSome]
theorem mx_l {i j : Int} : i ≤ mx i j := by unfold mx; split <;> omega
theorem mx_r {i j : Int} : j ≤ mx i j := by unfold mx; split <;> omega
theorem mx_or {i j : Int} : mx i j = i ∨ mx i j = j := by unfold mx; split <;> simp
/-- a way through the new limit -/
def sdL (gl : GL) (lo a : Str) (x : Int) : Prop := (a = lo ∧ x = 0) ∨ valG gl (a, lo) = some x
def sdR (gl : GL) (hi b : Str) (y : Int) : Prop := (b = hi ∧ y = 0) ∨ valG gl (hi, b) = some y
theorem GInv.way {fs : List Str} {ls : List Lim} {gl : GL} (h : GInv fs ls gl) (nd : fs.Nodup) {lo hi : Str} {g : Int} (hlo : lo ∈ fs) (hhi : hi ∈ fs) {a b : Str} {w : Int} : valG (waysL fs gl lo hi g) (a, b) = some w ↔ ∃ x y, sdL gl lo a x ∧ sdR gl hi b y ∧ w = x + g + y := by
  rw [mem_ways nd, ]
  have e1 : ∀ x, valG (sideL fs gl lo) a = some x ↔ sdL gl lo a x := fun x => by
    rw [valG_sideL]
    unfold sdL
    by_cases e : a = lo
    · subst e
      rw [h.irr a]
      simp [hlo, eq_comm]
    · cases q : valG gl (a, lo) with
      | none => simp [e]
      | some v =>
        have : a ∈ fs := (h.ok.inF (a, lo) (List.mem_map.mpr ⟨_, valG_some_mem q, rfl⟩)).1
        simp [e, this]
  have e2 : ∀ x, valG (sideR fs gl hi) b = some x ↔ sdR gl hi b x := fun x => by
    rw [valG_sideR]
    unfold sdR
    by_cases e : b = hi
    · subst e
      rw [h.irr b]
      simp [hhi, eq_comm]
    · cases q : valG gl (hi, b) with
      | none => simp [e]
      | some v =>
        have : b ∈ fs := (h.ok.inF (hi, b) (List.mem_map.mpr ⟨_, valG_some_mem q, rfl⟩)).2
        simp [e, this]
  simp only [e1, e2]
theorem GInv.step {fs : List Str} {ls : List Lim} {gl : GL} (h : GInv fs ls gl) (nd : fs.Nodup) {l : Lim} (hc : closesB fs gl l = false) (hg : 0 ≤ l.2.2) : GInv fs (ls ++ [l]) (widenL fs gl l.1 l.2.1 l.2.2) := by
  obtain ⟨lo, hi, g⟩ := l
  unfold closesB at hc
  simp only [Bool.or_eq_false_iff, Bool.not_eq_false', decide_eq_true_eq, decide_eq_false_iff_not, Option.isSome_eq_false_iff, Option.isNone_iff_eq_none] at hc
  obtain ⟨hlo, hhi, hne, hno⟩ := hc
  simp only at hlo hhi hne hno hg ⊢
  have W : ∀ {a b : Str} {w : Int}, valG (waysL fs gl lo hi g) (a, b) = some w ↔ ∃ x y, sdL gl lo a x ∧ sdR gl hi b y ∧ w = x + g + y := fun {a b w} => h.way nd hlo hhi
  have nnL : ∀ {a x}, sdL gl lo a x → 0 ≤ x := fun {a x} q => by rcases q with ⟨_, rfl⟩ | q; exact Int.le_refl _; exact h.nn _ _ q
  have nnR : ∀ {a x}, sdR gl hi a x → 0 ≤ x := fun {a x} q => by rcases q with ⟨_, rfl⟩ | q; exact Int.le_refl _; exact h.nn _ _ q
  -- no way back
  have back : ∀ {b x y}, sdR gl hi b x → sdL gl lo b y → False := fun {b x y} q1 q2 => by
    rcases q1 with ⟨rfl, rfl⟩ | q1 <;> rcases q2 with ⟨e, rfl⟩ | q2
    · exact hne e.symm
    · rw [hno] at q2; cases q2
    · subst e; rw [hno] at q1; cases q1
    · obtain ⟨z, hz, _⟩ := h.cls _ _ _ _ _ q1 q2
      rw [hno] at hz; cases hz
  -- what stands there is an old gap or a way
  have V : ∀ {a b m}, valG (widenL fs gl lo hi g) (a, b) = some m → valG gl (a, b) = some m ∨ valG (waysL fs gl lo hi g) (a, b) = some m := fun {a b m} q => by
    rw [valG_widen] at q
    split at q
    · rename_i hs
      cases q
      cases q1 : valG gl (a, b) with
      | none =>
        cases q2 : valG (waysL fs gl lo hi g) (a, b) with
        | none => rw [q1, q2] at hs; simp at hs
        | some w =>
          obtain ⟨x, y, h1, h2, rfl⟩ := W.mp q2
          have := nnL h1
          have := nnR h2
          right
          congr 1
          show _ = mx 0 _
          unfold mx
          simp only [Option.getD_some]
          split <;> omega
      | some v =>
        have v0 := h.nn _ _ q1
        cases q2 : valG (waysL fs gl lo hi g) (a, b) with
        | none => left; congr 1; show _ = mx v 0; unfold mx; split <;> omega
        | some w =>
          show some v = some (mx v w) ∨ some w = some (mx v w)
          rcases mx_or (i := v) (j := w) with e | e
          · left; rw [e]
          · right; rw [e]
    · cases q
  have G1 : ∀ {a b m}, valG gl (a, b) = some m → ∃ z, valG (widenL fs gl lo hi g) (a, b) = some z ∧ m ≤ z := fun {a b m} q => by
    rw [valG_widen, q]
    exact ⟨_, if_pos (.inl rfl), mx_l⟩
  have G2 : ∀ {a b m}, valG (waysL fs gl lo hi g) (a, b) = some m → ∃ z, valG (widenL fs gl lo hi g) (a, b) = some z ∧ m ≤ z := fun {a b m} q => by
    rw [valG_widen, q]
    exact ⟨_, if_pos (.inr rfl), mx_r⟩
  have cL : ∀ {a b x y}, valG gl (a, b) = some x → sdL gl lo b y → ∃ z, sdL gl lo a z ∧ x + y ≤ z := fun {a b x y} q1 q2 => by
    rcases q2 with ⟨rfl, rfl⟩ | q2
    · exact ⟨x, .inr q1, by omega⟩
    · obtain ⟨z, hz, h1⟩ := h.cls _ _ _ _ _ q1 q2
      exact ⟨z, .inr hz, h1⟩
  have cR : ∀ {b c x y}, sdR gl hi b x → valG gl (b, c) = some y → ∃ z, sdR gl hi c z ∧ x + y ≤ z := fun {b c x y} q1 q2 => by
    rcases q1 with ⟨rfl, rfl⟩ | q1
    · exact ⟨y, .inr q2, by omega⟩
    · obtain ⟨z, hz, h1⟩ := h.cls _ _ _ _ _ q1 q2
      exact ⟨z, .inr hz, h1⟩
  refine ⟨h.ok.widen, fun a b m q => ?_, fun a b n q => ?_, fun a b c x y q1 q2 => ?_, fun a => ?_, fun p m q => ?_⟩
  · rcases V q with q | q
    · exact (h.snd a b m q).mono fun l hl => List.mem_append_left _ hl
    · obtain ⟨x, y, h1, h2, rfl⟩ := W.mp q
      have new : Path (ls ++ [(lo, hi, g)]) lo hi g := .one (by simp)
      have up : ∀ {a b n}, Path ls a b n → Path (ls ++ [(lo, hi, g)]) a b n := fun p => p.mono fun l hl => List.mem_append_left _ hl
      rcases h1 with ⟨rfl, rfl⟩ | h1 <;> rcases h2 with ⟨rfl, rfl⟩ | h2
      · simpa using new
      · have := new.append (up (h.snd _ _ _ h2)); simpa using this
      · have := (up (h.snd _ _ _ h1)).append new; simpa using this
      · exact ((up (h.snd _ _ _ h1)).append new).append (up (h.snd _ _ _ h2))
  · rcases List.mem_append.mp q with q | q
    · obtain ⟨m, h1, h2⟩ := h.lim a b n q
      obtain ⟨z, h3, h4⟩ := G1 h1
      exact ⟨z, h3, by omega⟩
    · simp at q
      obtain ⟨rfl, rfl, rfl⟩ := q
      obtain ⟨z, h3, h4⟩ := G2 (W.mpr ⟨0, 0, .inl ⟨rfl, rfl⟩, .inl ⟨rfl, rfl⟩, rfl⟩)
      exact ⟨z, h3, by omega⟩
  · rcases V q1 with q1 | q1 <;> rcases V q2 with q2 | q2
    · obtain ⟨z, h1, h2⟩ := h.cls _ _ _ _ _ q1 q2
      obtain ⟨w, h3, h4⟩ := G1 h1
      exact ⟨w, h3, by omega⟩
    · obtain ⟨u, v, h1, h2, rfl⟩ := W.mp q2
      obtain ⟨z, h3, h4⟩ := cL q1 h1
      obtain ⟨w, h5, h6⟩ := G2 (W.mpr ⟨z, v, h3, h2, rfl⟩)
      exact ⟨w, h5, by omega⟩
    · obtain ⟨u, v, h1, h2, rfl⟩ := W.mp q1
      obtain ⟨z, h3, h4⟩ := cR h2 q2
      obtain ⟨w, h5, h6⟩ := G2 (W.mpr ⟨u, z, h1, h3, rfl⟩)
      exact ⟨w, h5, by omega⟩
    · obtain ⟨u, v, h1, h2, rfl⟩ := W.mp q1
      obtain ⟨u2, v2, h3, h4, rfl⟩ := W.mp q2
      exact (back h2 h3).elim
  · cases q : valG (widenL fs gl lo hi g) (a, a) with
    | none => rfl
    | some m =>
      rcases V q with q | q
      · rw [h.irr] at q; cases q
      · obtain ⟨u, v, h1, h2, rfl⟩ := W.mp q
        exact (back h2 h1).elim
  · obtain ⟨a, b⟩ := p
    rcases V q with q | q
    · exact h.nn _ _ q
    · obtain ⟨u, v, h1, h2, rfl⟩ := W.mp q
      have := nnL h1
      have := nnR h2
      omega
theorem gapsE_inv {fs : List Str} (nd : fs.Nodup) : ∀ (ls pre : List Lim) (gl gl2 : GL) (n : Nat), GInv fs pre gl → (∀ l ∈ ls, 0 ≤ l.2.2) → gapsE fs gl n ls = .ok gl2 → GInv fs (pre ++ ls) gl2
  | [], pre, gl, gl2, n, h, _, e => by cases e; simpa using h
  | l :: ls, pre, gl, gl2, n, h, h0, e => by
    unfold gapsE at e
    split at e
    · cases e
    · rename_i hc
      have := gapsE_inv nd ls (pre ++ [l]) _ gl2 _ (h.step nd (by simpa using hc) (h0 l (by simp))) (fun x hx => h0 x (by simp [hx])) e
      simpa using this
/-! ### houses -/
theorem HOk.nd {fs : List Str} {ls : List Lim} {line : List Str} (h : HOk fs ls line) : fs.Nodup := by
  have := h.nm; unfold okNames at this; simp at this; exact this.2
theorem HOk.ndl {fs : List Str} {ls : List Lim} {line : List Str} (h : HOk fs ls line) : line.Nodup := h.pm.nodup_iff.mpr h.nd
theorem nodup_ix {l : List Str} (nd : l.Nodup) {i j : Nat} {x : Str} (h1 : l[i]? = some x) (h2 : l[j]? = some x) : i = j := by
  obtain ⟨a, e1⟩ := List.getElem?_eq_some_iff.mp h1
  obtain ⟨b, e2⟩ := List.getElem?_eq_some_iff.mp h2
  have key := List.pairwise_iff_getElem.mp nd
  rcases Nat.lt_trichotomy i j with h | h | h
  · exact absurd (e1.trans e2.symm) (key i j a b h)
  · exact h
  · exact absurd (e2.trans e1.symm) (key j i b a h)
theorem Before.trans {line : List Str} (nd : line.Nodup) {a b c : Str} (h1 : Before line a b) (h2 : Before line b c) : Before line a c := by
  obtain ⟨i, j, h, e1, e2⟩ := h1
  obtain ⟨k, m, h3, e3, e4⟩ := h2
  have := nodup_ix nd e2 e3
  exact ⟨i, m, by omega, e1, e4⟩
theorem Before.irr {line : List Str} (nd : line.Nodup) {a : Str} (h : Before line a a) : False := by
  obtain ⟨i, j, h, e1, e2⟩ := h
  have := nodup_ix nd e1 e2
  omega
theorem Path.before {ls : List Lim} {line : List Str} (nd : line.Nodup) (h : ∀ l ∈ ls, Before line l.1 l.2.1) {a b : Str} {n : Int} (p : Path ls a b n) : Before line a b := by
  induction p with
  | one e => exact h _ e
  | cons e _ ih => exact (h _ e).trans nd ih
theorem Before.mem {line : List Str} {a b : Str} (h : Before line a b) : a ∈ line ∧ b ∈ line := by
  obtain ⟨i, j, _, e1, e2⟩ := h
  exact ⟨List.mem_of_getElem? e1, List.mem_of_getElem? e2⟩
theorem gapsE_house {fs : List Str} {line : List Str} (nd : fs.Nodup) (pm : line.Perm fs) : ∀ (ls pre : List Lim) (gl : GL) (n : Nat), GInv fs pre gl → (∀ l ∈ pre ++ ls, Before line l.1 l.2.1 ∧ 0 ≤ l.2.2) → ∃ gl2, gapsE fs gl n ls = .ok gl2 ∧ GInv fs (pre ++ ls) gl2
  | [], pre, gl, n, h, _ => ⟨gl, rfl, by simpa using h⟩
  | l :: ls, pre, gl, n, h, hb => by
    have ndl : line.Nodup := pm.nodup_iff.mpr nd
    have hl := hb l (by simp)
    have hc : closesB fs gl l = false := by
      obtain ⟨m1, m2⟩ := hl.1.mem
      have hno : valG gl (l.2.1, l.1) = none := by
        cases q : valG gl (l.2.1, l.1) with
        | none => rfl
        | some v => exact ((((h.snd _ _ _ q).before ndl fun x hx => (hb x (by simp [hx])).1).trans ndl hl.1).irr ndl).elim
      have hne : ¬ l.1 = l.2.1 := fun e => by
        have := hl.1
        rw [e] at this
        exact this.irr ndl
      unfold closesB
      simp [pm.mem_iff.mp m1, pm.mem_iff.mp m2, hno, hne]
    unfold gapsE
    rw [hc]
    obtain ⟨gl2, e, i⟩ := gapsE_house nd pm ls (pre ++ [l]) _ (n + 1) (h.step nd hc hl.2) (by simpa using hb)
    exact ⟨gl2, by simpa using e, by simpa using i⟩
/-- the order of a house -/
theorem HOk.gaps {fs : List Str} {ls : List Lim} {line : List Str} (h : HOk fs ls line) : ∃ gl, gapsE fs [] 0 ls = .ok gl ∧ GInv fs ls gl := by
  obtain ⟨gl, e, i⟩ := gapsE_house h.nd h.pm ls [] [] 0 GInv.nil fun l hl => ⟨(h.lm l (by simpa using hl)).1, (h.lm l (by simpa using hl)).2.1⟩
  exact ⟨gl, e, by simpa using i⟩
theorem HOk.lmem {fs : List Str} {ls : List Lim} {line : List Str} (h : HOk fs ls line) {l : Lim} (hl : l ∈ ls) : l.1 ∈ fs ∧ l.2.1 ∈ fs := by
  obtain ⟨a, b⟩ := (h.lm l hl).1.mem
  exact ⟨h.pm.mem_iff.mp a, h.pm.mem_iff.mp b⟩
/-! ### values by names -/
def nv (ks : List Str) (v : Str → Int) : List (Str × Int) := ks.map fun n => (n, v n)
def dvK (ks : List Str) (v : Str → Int) : List (Ky × D) := strK (nv ks v)
theorem valG_nv {ks : List Str} {v : Str → Int} {n : Str} : valG (nv ks v) n = if n ∈ ks then some (v n) else none := by
  unfold nv
  induction ks with
  | nil => simp [valG_nil]
  | cons k ks ih =>
    rw [List.map_cons, valG_cons, ih]
    by_cases e : k = n
    · subst e; simp
    · have : ¬ n = k := fun z => e z.symm
      simp [e, this]
theorem valG_dvK {ks : List Str} {v : Str → Int} {n : Str} (h : n ∈ ks) : valG (dvK ks v) (.inr n) = some (.int (v n)) := by
  unfold dvK
  rw [valG_strK, valG_nv, if_pos h]; rfl
theorem dvK_congr {ks : List Str} {v w : Str → Int} (h : ∀ n ∈ ks, v n = w n) : dvK ks v = dvK ks w := by
  unfold dvK nv
  congr 1
  exact List.map_congr_left fun n hn => by rw [h n hn]
theorem dvK_put {ks : List Str} {v : Str → Int} {y : Str} {x : Int} (h : y ∉ ks) : putG (dvK ks v) (.inr y) (.int x) = dvK (ks ++ [y]) fun n => if n = y then x else v n := by
  have hk : (dvK ks v).map (·.1) = ks.map Sum.inr := by
    unfold dvK strK nv
    rw [List.map_map, List.map_map]; rfl
  rw [putG_new (by rw [hk]; intro z; obtain ⟨w, hw, e⟩ := List.mem_map.mp z; cases e; exact h hw)]
  have : dvK ks v = dvK ks fun n => if n = y then x else v n := dvK_congr fun n hn => by
    rw [if_neg fun e => h (by rw [← e]; exact hn)]
  rw [this]
  unfold dvK strK nv
  rw [List.map_append, List.map_append]
  simp
theorem dvK_len {ks : List Str} {v : Str → Int} : (dvK ks v).length = ks.length := by unfold dvK strK nv; simp
theorem house_fields {fs ls line} : valG (houseK fs ls line) (.inr (Str.ofString "fields")) = some (.lst (strL fs)) := rfl
theorem house_limits {fs ls line} : valG (houseK fs ls line) (.inr (Str.ofString "limits")) = some (.lst (lims ls)) := rfl
theorem house_line {fs ls line} : valG (houseK fs ls line) (.inr (Str.ofString "line")) = some (.lst (strL line)) := rfl
/-! ### greatest and least of a list -/
theorem maxL_geq : ∀ (l : List Int) (m : Int), m ≤ maxL m l ∧ ∀ x ∈ l, x ≤ maxL m l
  | [], m => ⟨Int.le_refl _, by simp⟩
  | y :: l, m => by
    unfold maxL
    obtain ⟨h1, h2⟩ := maxL_geq l (if y > m then y else m)
    refine ⟨?_, fun x hx => ?_⟩
    · split at h1 <;> split <;> omega
    · rcases List.mem_cons.mp hx with rfl | hx
      · split at h1 <;> split <;> omega
      · exact h2 x hx
theorem maxL_mem : ∀ (l : List Int) (m : Int), maxL m l = m ∨ maxL m l ∈ l
  | [], m => .inl rfl
  | y :: l, m => by
    unfold maxL
    rcases maxL_mem l (if y > m then y else m) with h | h
    · rw [h]
      split
      · right; simp
      · left; rfl
    · right; exact List.mem_cons_of_mem _ h
theorem minL_leq : ∀ (l : List Int) (m : Int), minL m l ≤ m ∧ ∀ x ∈ l, minL m l ≤ x
  | [], m => ⟨Int.le_refl _, by simp⟩
  | y :: l, m => by
    unfold minL
    obtain ⟨h1, h2⟩ := minL_leq l (if y < m then y else m)
    refine ⟨?_, fun x hx => ?_⟩
    · split at h1 <;> split <;> omega
    · rcases List.mem_cons.mp hx with rfl | hx
      · split at h1 <;> split <;> omega
      · exact h2 x hx
theorem minL_mem : ∀ (l : List Int) (m : Int), minL m l = m ∨ minL m l ∈ l
  | [], m => .inl rfl
  | y :: l, m => by
    unfold minL
    rcases minL_mem l (if y < m then y else m) with h | h
    · rw [h]
      split
      · right; simp
      · left; rfl
    · right; exact List.mem_cons_of_mem _ h
/-- a state: all limits are met -/
def Meets (ls : List Lim) (u : Str → Int) : Prop := ∀ l ∈ ls, u l.1 + l.2.2 ≤ u l.2.1
/-- the least at least as great as v -/
structure UpOf (ls : List Lim) (line : List Str) (v u : Str → Int) : Prop where
  mt : Meets ls u
  ge : ∀ n ∈ line, v n ≤ u n
  hd : ∀ n ∈ line, u n = v n ∨ ∃ l ∈ ls, l.2.1 = n ∧ u n = u l.1 + l.2.2
def sp_up : FS := fun ss Q _ => ∃ (fs : List Str) (ls : List Lim) (line ks : List Str) (v : Str → Int), ss = [.val (.dK (houseK fs ls line)), .val (.dK (dvK ks v))] ∧ (HOk fs ls line ∧ (∀ n ∈ line, n ∈ ks) ∧ line.length ≤ 1000 ∧ ls.length ≤ 100000) ∧ ∀ u, UpOf ls line v u → Q (.own (.dK (dvK line u))) ss
def sp_state : FS := fun ss Q _ => ∃ (fs : List Str) (ls : List Lim) (line : List Str), ss = [.own .draw, .val (.dK (houseK fs ls line))] ∧ (HOk fs ls line ∧ line.length ≤ 1000 ∧ ls.length ≤ 100000) ∧ ∀ u, Meets ls u → Q (.own (.dK (dvK line u))) ss
def sp_tuple : FS := fun ss Q _ => ∃ (fs : List Str) (ls : List Lim) (line ks : List Str) (v : Str → Int), ss = [.val (.dK (houseK fs ls line)), .val (.dK (dvK ks v))] ∧ (∀ n ∈ fs, n ∈ ks) ∧ Q (.val (.tup (intL (fs.map v)))) ss
section
variable {Γ : Nat → FS} {ss : List Slot} {Q : Res → List Slot → Prop} {E : Xc → List Slot → Prop}
theorem ok_tuple (h : sp_tuple ss Q E) : runD Γ 3 ir_law_tuple ss Q E := by
  obtain ⟨fs, ls, line, ks, v, rfl, hk, q⟩ := h
  refine run_of _ rfl rfl (by simp) fun K hr hn he => ?_
  unfold ir_law_tuple
  infer_instance
  refine cons_run (retN_run ?_)
  infer_instance
  refine lcpM_run (g := none) D.str fs (fun n => .int (v n)) _ (fun Q' h => ?_) rfl rfl (noOwn_lit rfl) (fun _ z => nomatch z) (by simp [Tg.slots, Tg.slots.slotsT]) trivial (fun y hy K h => ?_) ?_
  · exists house_fields
    exact h
  · infer_instance
    rw [valG_dvK (hk y hy)]
    infer_instance
    exact h
  · infer_instance
    refine hr _ _ _ rfl ?_
    rw [show (fs.map fun n => D.int (v n)) = intL (fs.map v) by unfold intL; rw [List.map_map]; rfl]
    exact q
theorem ok_up (h : sp_up ss Q E) : runD Γ 8 ir_law_up ss Q E := by
  obtain ⟨fs, ls, line, ks, v, rfl, ⟨ho, hk, hl, hls⟩, q⟩ := h
  have hb : big = 16777216 := rfl
  refine run_of _ rfl rfl (by simp) fun K hr hn he => ?_
  unfold ir_law_up
  infer_instance
  refine cons_run (asgN_run ?_)
  infer_instance
  refine cons_run (forM_run (g := none) D.str line (fun p ρ => ∃ u s3 s4, ρ = [.val (.dK (houseK fs ls line)), .val (.dK (dvK ks v)), .own (.dK (dvK p u)), s3, s4, .non, .non, .non] ∧ (∀ l ∈ ls, l.2.1 ∈ p → u l.1 + l.2.2 ≤ u l.2.1) ∧ (∀ n ∈ p, v n ≤ u n) ∧ ∀ n ∈ p, u n = v n ∨ ∃ l ∈ ls, l.2.1 = n ∧ u n = u l.1 + l.2.2) (fun Q' h => ?_) (fun _ z => nomatch z) ⟨v, .non, .non, rfl, by simp, by simp, by simp⟩ (fun _ _ _ => trivial) (fun p y r ρ e ⟨u, s3, s4, eρ, i1, i2, i3⟩ => ?_) fun ρ ⟨u, s3, s4, eρ, i1, i2, i3⟩ => ?_)
  · exists house_line
    exact h
  · subst eρ
    have ndl := ho.ndl
    have hy : y ∈ line := by rw [e]; simp
    have hyp : y ∉ p := fun hm => by
      rw [e, List.nodup_append] at ndl
      exact ndl.2.2 y hm y (by simp) rfl
    have hlow : ∀ l ∈ ls, l.2.1 = y → l.1 ∈ p := fun l hl el => by
      obtain ⟨i, j, hij, e1, e2⟩ := (ho.lm l hl).1
      have : j = p.length := nodup_ix ndl (x := y) (by rw [e2, el]) (by rw [e]; simp)
      rw [e, List.getElem?_append_left (by omega)] at e1
      exact List.mem_of_getElem? e1
    refine ⟨_, rfl, fun K1 k1 k2 k3 k4 k5 => cons_run (asgN_run ?_)⟩
    infer_instance
    refine lcp_run (g := none) limD ls (fun l => decide (l.2.1 = y)) (fun l => .int (u l.1 + l.2.2)) _ (fun Q' h => ?_) rfl rfl (noOwn_lit rfl) (fun _ z => nomatch z) (by simp [Tg.slots, Tg.slots.slotsT]) trivial (fun z hz K h => ?_) ?_
    · exists house_limits
      exact h
    · unfold limD
      exists beq_iff_eq
      have h : K (if decide (z.2.1 = y) = true then some (.int (u z.1 + z.2.2)) else none) _ := h
      simp only [decide_eq_true_eq] at h
      by_cases c : z.2.1 = y
      · rw [if_pos c] at h ⊢
        rw [valG_dvK (hlow z hz c)]
        infer_instance
        exact h
      · rw [if_neg c] at h ⊢; exact h
    infer_instance
    refine cons_run (sti_run ?_)
    infer_instance
    rw [valG_dvK (hk y hy)]
    infer_instance
    have e2 : intsOf (D.int (v y) :: (ls.filter fun l => decide (l.2.1 = y)).map fun l => D.int (u l.1 + l.2.2)) = some (v y :: (ls.filter fun l => decide (l.2.1 = y)).map fun l => u l.1 + l.2.2) := by
      have := ints_map (v y :: (ls.filter fun l => decide (l.2.1 = y)).map fun l => u l.1 + l.2.2)
      rw [List.map_cons, List.map_map] at this
      exact this
    rw [e2]
    have hfl : (ls.filter fun l => decide (l.2.1 = y)).length ≤ ls.length := List.length_filter_le ..
    refine ⟨by rw [List.length_map]; omega, ?_⟩
    exists dvK_put hyp, dvK_len
    have hpl : p.length < line.length := by rw [e]; simp
    refine ⟨by omega, nil_run (k5 _ ⟨_, _, _, rfl, fun l hl hm => ?_, fun n hn => ?_, fun n hn => ?_⟩)⟩
    · have hmx := maxL_geq ((ls.filter fun l => decide (l.2.1 = y)).map fun l => u l.1 + l.2.2) (v y)
      by_cases c : l.2.1 = y
      · have h1 : l.1 ≠ y := fun e => hyp (by rw [← e]; exact hlow l hl c)
        rw [if_neg h1, if_pos c]
        exact hmx.2 _ (List.mem_map.mpr ⟨l, List.mem_filter.mpr ⟨hl, by simpa using c⟩, rfl⟩)
      · have hm2 : l.2.1 ∈ p := by
          rcases List.mem_append.mp hm with h | h
          · exact h
          · simp at h; exact absurd h c
        have h1 : l.1 ≠ y := fun e1 => by
          obtain ⟨i, j, hij, f1, f2⟩ := (ho.lm l hl).1
          obtain ⟨t, ht, f3⟩ := List.getElem_of_mem hm2
          have : j = t := nodup_ix ndl f2 (by rw [e, List.getElem?_append_left ht, ← f3]; simp)
          have : i = p.length := nodup_ix ndl (x := y) (by rw [f1, e1]) (by rw [e]; simp)
          omega
        rw [if_neg h1, if_neg c]
        exact i1 l hl hm2
    · by_cases c : n = y
      · rw [if_pos c, c]; exact (maxL_geq _ _).1
      · rw [if_neg c]
        rcases List.mem_append.mp hn with h | h
        · exact i2 n h
        · simp at h; exact absurd h c
    · by_cases c : n = y
      · subst c
        rw [if_pos rfl]
        rcases maxL_mem ((ls.filter fun l => decide (l.2.1 = n)).map fun l => u l.1 + l.2.2) (v n) with h | h
        · left; exact h
        · right
          obtain ⟨l, hl, hl2⟩ := List.mem_map.mp h
          obtain ⟨h1, h2⟩ := List.mem_filter.mp hl
          have h2 : l.2.1 = n := by simpa using h2
          have h3 : l.1 ≠ n := fun e => hyp (by rw [← e]; exact hlow l h1 h2)
          exact ⟨l, h1, h2, by rw [if_neg h3]; exact hl2.symm⟩
      · have hm : n ∈ p := by
          rcases List.mem_append.mp hn with h | h
          · exact h
          · simp at h; exact absurd h c
        rw [if_neg c]
        rcases i3 n hm with h | ⟨l, h1, h2, h3⟩
        · left; exact h
        · right
          have h4 : l.1 ≠ y := fun e1 => by
            obtain ⟨i, j, hij, f1, f2⟩ := (ho.lm l h1).1
            obtain ⟨t, ht, f3⟩ := List.getElem_of_mem hm
            have : j = t := nodup_ix ndl f2 (by rw [e, List.getElem?_append_left ht, h2, ← f3]; simp)
            have : i = p.length := nodup_ix ndl (x := y) (by rw [f1, e1]) (by rw [e]; simp)
            omega
          exact ⟨l, h1, h2, by rw [if_neg h4]; exact h3⟩
  · subst eρ
    refine cons_run (retN_run ?_)
    infer_instance
    refine hr _ _ _ rfl (q u ⟨fun l hl => i1 l hl ?_, i2, i3⟩)
    exact (ho.lm l hl).1.mem.2
theorem ok_state (h303 : Γ 303 = sp_value) (h309 : Γ 309 = sp_up) (h : sp_state ss Q E) : runD Γ 4 ir_law_state ss Q E := by
  obtain ⟨fs, ls, line, rfl, ⟨ho, hl, hls⟩, q⟩ := h
  have hb : big = 16777216 := rfl
  have hfl : line.length = fs.length := ho.pm.length_eq
  refine run_of _ rfl rfl (by simp) fun K hr hn he => ?_
  unfold ir_law_state
  infer_instance
  refine cons_run (asgN_run ?_)
  infer_instance
  refine cons_run (forM_run (g := none) D.str fs (fun p ρ => ∃ u s3, ρ = [.own .draw, .val (.dK (houseK fs ls line)), .own (.dK (dvK p u)), s3]) (fun Q' h => ?_) (fun _ z => nomatch z) ⟨fun _ => 0, .non, rfl⟩ (fun _ _ _ => trivial) (fun p y r ρ e ⟨u, s3, eρ⟩ => ?_) fun ρ ⟨u, s3, eρ⟩ => ?_)
  · exists house_fields
    exact h
  · subst eρ
    have nd := ho.nd
    have hyp : y ∉ p := fun hm => by
      rw [e, List.nodup_append] at nd
      exact nd.2.2 y hm y (by simp) rfl
    have hpl : p.length < fs.length := by rw [e]; simp
    refine ⟨_, rfl, fun K1 k1 k2 k3 k4 k5 => cons_run (sti_run ?_)⟩
    infer_instance
    rw [h303]
    refine ⟨rfl, fun i => ?_⟩
    exists dvK_put hyp, dvK_len
    exact ⟨by omega, nil_run (k5 _ ⟨_, _, rfl⟩)⟩
  · subst eρ
    refine cons_run (retN_run ?_)
    infer_instance
    rw [h309]
    refine ⟨fs, ls, line, fs, u, rfl, ⟨ho, fun n hn => ho.pm.mem_iff.mp hn, hl, hls⟩, fun w hw => ?_⟩
    infer_instance
    exact hr _ _ _ rfl (q w hw.mt)
end
/-! ### the raised and the lowered -/
def rsd (fs : List Str) (gl : GL) (v : Str → Int) (n : Str) : Int := maxL (v n) ((undL fs gl n).map fun p => v p.1 + p.2)
def lwd (fs : List Str) (gl : GL) (v : Str → Int) (n : Str) : Int := minL (v n) ((ovrL fs gl n).map fun p => v p.1 - p.2)
section
variable {fs : List Str} {ls : List Lim} {gl : GL} {v : Str → Int}
theorem undL_of {a n : Str} {g : Int} (h : GInv fs ls gl) (e : valG gl (a, n) = some g) : (a, g) ∈ undL fs gl n := by
  unfold undL
  refine List.mem_map.mpr ⟨a, List.mem_filter.mpr ⟨(h.ok.inF (a, n) (List.mem_map.mpr ⟨_, valG_some_mem e, rfl⟩)).1, by rw [e]; rfl⟩, by rw [e]; rfl⟩
theorem ovrL_of {a n : Str} {g : Int} (h : GInv fs ls gl) (e : valG gl (n, a) = some g) : (a, g) ∈ ovrL fs gl n := by
  unfold ovrL
  refine List.mem_map.mpr ⟨a, List.mem_filter.mpr ⟨(h.ok.inF (n, a) (List.mem_map.mpr ⟨_, valG_some_mem e, rfl⟩)).2, by rw [e]; rfl⟩, by rw [e]; rfl⟩
theorem rsd_ge {n : Str} : v n ≤ rsd fs gl v n := (maxL_geq _ _).1
theorem lwd_le {n : Str} : lwd fs gl v n ≤ v n := (minL_leq _ _).1
theorem rsd_way (h : GInv fs ls gl) {a n : Str} {g : Int} (e : valG gl (a, n) = some g) : v a + g ≤ rsd fs gl v n := (maxL_geq _ _).2 _ (List.mem_map.mpr ⟨(a, g), undL_of h e, rfl⟩)
theorem lwd_way (h : GInv fs ls gl) {a n : Str} {g : Int} (e : valG gl (n, a) = some g) : lwd fs gl v n ≤ v a - g := (minL_leq _ _).2 _ (List.mem_map.mpr ⟨(a, g), ovrL_of h e, rfl⟩)
theorem rsd_or {n : Str} : rsd fs gl v n = v n ∨ ∃ a g, valG gl (a, n) = some g ∧ rsd fs gl v n = v a + g := by
  rcases maxL_mem ((undL fs gl n).map fun p => v p.1 + p.2) (v n) with h | h
  · exact .inl h
  · obtain ⟨p, hp, e⟩ := List.mem_map.mp h
    exact .inr ⟨p.1, p.2, (und_mem hp).2, e.symm⟩
theorem lwd_or {n : Str} : lwd fs gl v n = v n ∨ ∃ a g, valG gl (n, a) = some g ∧ lwd fs gl v n = v a - g := by
  rcases minL_mem ((ovrL fs gl n).map fun p => v p.1 - p.2) (v n) with h | h
  · exact .inl h
  · obtain ⟨p, hp, e⟩ := List.mem_map.mp h
    exact .inr ⟨p.1, p.2, (ovr_mem hp).2, e.symm⟩
theorem rsd_meets (h : GInv fs ls gl) : Meets ls (rsd fs gl v) := fun ⟨a, b, g⟩ hl => by
  obtain ⟨m, hm, h1⟩ := h.lim a b g hl
  show rsd fs gl v a + g ≤ rsd fs gl v b
  rcases rsd_or (fs := fs) (gl := gl) (v := v) (n := a) with e | ⟨c, k, hc, e⟩
  · rw [e]
    have := rsd_way (v := v) h hm
    omega
  · obtain ⟨z, hz, h2⟩ := h.cls _ _ _ _ _ hc hm
    have := rsd_way (v := v) h hz
    omega
theorem lwd_meets (h : GInv fs ls gl) : Meets ls (lwd fs gl v) := fun ⟨a, b, g⟩ hl => by
  obtain ⟨m, hm, h1⟩ := h.lim a b g hl
  show lwd fs gl v a + g ≤ lwd fs gl v b
  rcases lwd_or (fs := fs) (gl := gl) (v := v) (n := b) with e | ⟨c, k, hc, e⟩
  · rw [e]
    have := lwd_way (v := v) h hm
    omega
  · obtain ⟨z, hz, h2⟩ := h.cls _ _ _ _ _ hm hc
    have := lwd_way (v := v) h hz
    omega
theorem rsd_held (h : GInv fs ls gl) {n : Str} (hne : rsd fs gl v n ≠ v n) : ∃ l ∈ ls, l.2.1 = n ∧ rsd fs gl v l.1 + l.2.2 = rsd fs gl v n := by
  rcases rsd_or (fs := fs) (gl := gl) (v := v) (n := n) with e | ⟨c, k, hc, e⟩
  · exact absurd e hne
  · obtain ⟨m, g, h1, h2⟩ := (h.snd _ _ _ hc).last
    refine ⟨(m, n, g), h1, rfl, ?_⟩
    have h3 := rsd_meets (v := v) h _ h1
    simp only at h3 ⊢
    rcases h2 with ⟨rfl, rfl⟩ | ⟨p, h4, rfl⟩
    · have := rsd_ge (fs := fs) (gl := gl) (v := v) (n := m)
      omega
    · obtain ⟨z, hz, h5⟩ := h.path h4
      have := rsd_way (v := v) h hz
      omega
theorem lwd_held (h : GInv fs ls gl) {n : Str} (hne : lwd fs gl v n ≠ v n) : ∃ l ∈ ls, l.1 = n ∧ lwd fs gl v l.2.1 - l.2.2 = lwd fs gl v n := by
  rcases lwd_or (fs := fs) (gl := gl) (v := v) (n := n) with e | ⟨c, k, hc, e⟩
  · exact absurd e hne
  · obtain ⟨m, g, h1, h2⟩ := (h.snd _ _ _ hc).first
    refine ⟨(n, m, g), h1, rfl, ?_⟩
    have h3 := lwd_meets (v := v) h _ h1
    simp only at h3 ⊢
    rcases h2 with ⟨rfl, rfl⟩ | ⟨p, h4, rfl⟩
    · have := lwd_le (fs := fs) (gl := gl) (v := v) (n := m)
      omega
    · obtain ⟨z, hz, h5⟩ := h.path h4
      have := lwd_way (v := v) h hz
      omega
theorem Meets.path {u : Str → Int} (h : Meets ls u) {a b : Str} {n : Int} (p : Path ls a b n) : u a + n ≤ u b := by
  induction p with
  | one e => exact h _ e
  | cons e _ ih =>
    have := h _ e
    simp only at this
    omega
theorem rsd_state (h : GInv fs ls gl) (hm : Meets ls v) {n : Str} : rsd fs gl v n = v n := by
  rcases rsd_or (fs := fs) (gl := gl) (v := v) (n := n) with e | ⟨c, k, hc, e⟩
  · exact e
  · have := hm.path (h.snd _ _ _ hc)
    have := rsd_ge (fs := fs) (gl := gl) (v := v) (n := n)
    omega
theorem lwd_state (h : GInv fs ls gl) (hm : Meets ls v) {n : Str} : lwd fs gl v n = v n := by
  rcases lwd_or (fs := fs) (gl := gl) (v := v) (n := n) with e | ⟨c, k, hc, e⟩
  · exact e
  · have := hm.path (h.snd _ _ _ hc)
    have := lwd_le (fs := fs) (gl := gl) (v := v) (n := n)
    omega
end
theorem raisedL_eq {fs : List Str} {gl : GL} {vs : List Int} : raisedL fs gl vs = fs.map (rsd fs gl (giv fs vs)) := rfl
theorem loweredL_eq {fs : List Str} {gl : GL} {vs : List Int} : loweredL fs gl vs = fs.map (lwd fs gl (giv fs vs)) := rfl
theorem zip_nv {fs : List Str} : ∀ {vs : List Int}, fs.Nodup → vs.length = fs.length → fs.zip vs = nv fs (giv fs vs) := by
  intro vs nd hl
  have h1 : ∀ p ∈ fs.zip vs, p = (p.1, giv fs vs p.1) := fun p hp => by
    unfold giv
    rw [valG_of_mem (by rw [zip_keys hl]; exact nd) (k := p.1) (v := p.2) hp]; rfl
  have h2 : fs.zip vs = (fs.zip vs).map fun p => (p.1, giv fs vs p.1) := by
    conv => lhs; rw [← List.map_id (fs.zip vs)]
    exact List.map_congr_left h1
  rw [h2]
  have : ((fs.zip vs).map fun p => (p.1, giv fs vs p.1)) = ((fs.zip vs).map (·.1)).map fun n => (n, giv fs vs n) := by rw [List.map_map]; rfl
  rw [this, zip_keys hl]; rfl
theorem giv_map {fs : List Str} {f : Str → Int} {n : Str} (nd : fs.Nodup) (h : n ∈ fs) : giv fs (fs.map f) n = f n := by
  unfold giv
  have : (n, f n) ∈ fs.zip (fs.map f) := by
    induction fs with
    | nil => cases h
    | cons x fs ih =>
      rw [List.map_cons, List.zip_cons_cons]
      rcases List.mem_cons.mp h with rfl | h
      · simp
      · exact List.mem_cons_of_mem _ (ih (List.nodup_cons.mp nd).2 h)
  rw [valG_of_mem (by rw [zip_keys (by simp)]; exact nd) this]; rfl
def sp_begun : FS := fun ss Q _ => ∃ xs : List Int, ss = [.val (.lst (intL xs))] ∧ xs.length ≤ 63 ∧ Q (.own .draw) ss
def sp_law : FS := fun ss Q _ => ∃ xs : List Int, ss = [.val (.lst (intL xs))] ∧ xs.length ≤ 63 ∧ Q (.val (.bl true)) ss
section
variable {Γ : Nat → FS} {ss : List Slot} {Q : Res → List Slot → Prop} {E : Xc → List Slot → Prop}
theorem ok_begun (h : sp_begun ss Q E) : runD Γ 3 ir_law_begun ss Q E := by
  obtain ⟨xs, rfl, hx, q⟩ := h
  refine run_of _ rfl rfl (by simp) fun K hr hn he => ?_
  unfold ir_law_begun
  infer_instance
  refine cons_run (asgN_run ?_)
  refine lcpM_run (g := none) D.int xs (fun i => .int (if i < 0 then -i else i)) _ (fun Q' h => ?_) rfl rfl (noOwn_lit rfl) (fun _ z => nomatch z) (by simp [Tg.slots, Tg.slots.slotsT]) trivial (fun y hy K h => ?_) ?_
  · infer_instance; exact h
  · infer_instance; exact h
  infer_instance
  refine cons_run (retN_run ?_)
  infer_instance
  have e1 : (xs.map fun i => D.int (if i < 0 then -i else i)) = (xs.map fun i : Int => if i < 0 then -i else i).map D.int := by rw [List.map_map]; rfl
  rw [e1]
  refine lcp_run (g := some 1) D.int (xs.map fun i : Int => if i < 0 then -i else i) (fun i => decide (1000000000000000000 ≤ i)) D.int _ (fun Q' h => ?_) rfl rfl (noOwn_lit rfl) (fun i z => by cases z; simp) (by simp [Tg.slots]) rfl (fun y hy K h => ?_) ?_
  · infer_instance; exact h
  · infer_instance
    have h : K (if decide (1000000000000000000 ≤ y) = true then some (D.int y) else none) _ := h
    simp only [decide_eq_true_eq] at h
    exact k_ite h
  · dsimp only
    refine ⟨⟨_, rfl, ?_, fun n hn => ?_⟩, ?_⟩
    · exact Nat.le_trans (List.length_filter_le ..) (by rw [List.length_map]; exact hx)
    · have := (List.mem_filter.mp hn).2
      simp at this
      omega
    · infer_instance
      exact ⟨⟨_, rfl, by rw [List.length_map]; exact hx⟩, hr _ _ _ rfl q⟩
end
/-! ### is_integer, Order.__contains__, need_state, need_fields, place, bounds, settings -/
def isIntD : D → Bool
  | .int _ => true
  | _ => false
theorem isInt_b {d : D} (h : isiOk d = true) : (isiB .int d && !isiB .bool d) = isIntD d := by cases d <;> first | rfl | cases h
def sp_is_integer : FS := fun ss Q _ => ∃ d : D, ss = [.val d] ∧ isiOk d = true ∧ Q (.val (.bl (isIntD d))) ss
/-- the limits are met by these values -/
def meetB (fs : List Str) (gl : GL) (vs : List Int) : Bool := gl.all fun p => decide (giv fs vs p.1.1 + p.2 ≤ giv fs vs p.1.2)
def stB (fs : List Str) (gl : GL) : D → Bool
  | .tup ds => decide (ds.length = fs.length) && match intsOf ds with
    | some vs => meetB fs gl vs
    | none => false
  | _ => false
/-- what may be asked of: is it a state -/
def askB : D → Bool
  | .tup ds => ds.all isiOk
  | .ftp _ => false
  | d => isiOk d
structure OrdK (fs : List Str) (gl : GL) : Prop where
  nd : fs.Nodup
  len : fs.length ≤ 1000
  g : GOk fs gl
def sp_contains : FS := fun ss Q _ => ∃ (fs : List Str) (gl : GL) (d : D), ss = [.val (ordD fs gl), .val d] ∧ (OrdK fs gl ∧ askB d = true) ∧ Q (.val (.bl (stB fs gl d))) ss
def sp_need_state : FS := fun ss Q E => ∃ (fs : List Str) (gl : GL) (d : D), ss = [.val (ordD fs gl), .val d] ∧ (OrdK fs gl ∧ askB d = true) ∧ stB fs gl d = true ∧ Q (.val .non) ss
def sp_need_fields : FS := fun ss Q E => ∃ (fs : List Str) (gl : GL) (t : Sk) (ns : List Str), ss = [.val (ordD fs gl), .val (seqD t (strL ns))] ∧ (∀ x ∈ ns, x ∈ fs) ∧ Q (.val .non) ss
/-- the place of a field -/
def plI (fs : List Str) (n : Str) : Nat := (fs.findIdx? fun s => decide (s = n)).getD 0
theorem pl_some {fs : List Str} {n : Str} (h : n ∈ fs) : (fs.findIdx? fun s => decide (s = n)) = some (plI fs n) := by
  unfold plI
  cases e : fs.findIdx? fun s => decide (s = n) with
  | none =>
    rw [List.findIdx?_eq_none_iff] at e
    have := e n h
    simp at this
  | some j => rfl
theorem pl_get {fs : List Str} {n : Str} (h : n ∈ fs) : plI fs n < fs.length ∧ fs[plI fs n]? = some n := by
  obtain ⟨h1, h2, _⟩ := List.findIdx?_eq_some_iff_getElem.mp (pl_some h)
  refine ⟨h1, ?_⟩
  rw [List.getElem?_eq_getElem h1]
  simpa using h2
def sp_place : FS := fun ss Q E => ∃ (fs : List Str) (gl : GL) (n : Str), ss = [.val (ordD fs gl), .val (.str n)] ∧ n ∈ fs ∧ Q (.val (.int (plI fs n : Nat))) ss
def lowsL (fs : List Str) (gl : GL) (vs : List Int) (f : Str) : List Int := (undL fs gl f).map fun p => giv fs vs p.1 + p.2
def highL (fs : List Str) (gl : GL) (vs : List Int) (f : Str) : List Int := (ovrL fs gl f).map fun p => giv fs vs p.1 - p.2
def sp_bounds : FS := fun ss Q E => ∃ (fs : List Str) (gl : GL) (vs : List Int) (f : Str), ss = [.val (ordD fs gl), .val (.tup (intL vs)), .val (.str f)] ∧ (OrdK fs gl ∧ vs.length = fs.length ∧ f ∈ fs) ∧ Q (.val (.tup [.lst (intL (lowsL fs gl vs f)), .lst (intL (highL fs gl vs f))])) ss
def maxN : List Int → Int
  | [] => 0
  | n :: ns => maxL n ns
def minN : List Int → Int
  | [] => 0
  | n :: ns => minL n ns
/-- the value that a field gets which stops -/
def stopV (fs : List Str) (gl : GL) (vs : List Int) (f : Str) (v : Int) : Int := maxN (lowsL fs gl vs f ++ [minN (highL fs gl vs f ++ [v])])
def stopL (fs : List Str) (gl : GL) (vs : List Int) (f : Str) (v : Int) : List Int := vs.set (plI fs f) (stopV fs gl vs f v)
def imx (a b : Int) : Int := if b > a then b else a
def imn (a b : Int) : Int := if b < a then b else a
def pushUp (fs : List Str) (v : Int) (w : List Int) (p : Str × Int) : List Int := w.set (plI fs p.1) (imx (w.getD (plI fs p.1) 0) (v + p.2))
def pushDn (fs : List Str) (v : Int) (w : List Int) (p : Str × Int) : List Int := w.set (plI fs p.1) (imn (w.getD (plI fs p.1) 0) (v - p.2))
def pushL (fs : List Str) (gl : GL) (vs : List Int) (f : Str) (v : Int) : List Int := (undL fs gl f).foldl (pushDn fs v) ((ovrL fs gl f).foldl (pushUp fs v) (vs.set (plI fs f) v))
def sp_with (r : List Str → GL → List Int → Str → Int → List Int) : FS := fun ss Q E => ∃ (fs : List Str) (gl : GL) (vs : List Int) (f : Str) (v : Int), ss = [.val (ordD fs gl), .val (.tup (intL vs)), .val (.str f), .val (.int v)] ∧ (OrdK fs gl ∧ vs.length = fs.length ∧ f ∈ fs) ∧ Q (.val (.tup (intL (r fs gl vs f v)))) ss
def sp_with_stop : FS := fun ss Q E => ∃ (fs : List Str) (gl : GL) (vs : List Int) (f : Str) (v : Int), ss = [.val (ordD fs gl), .val (.tup (intL vs)), .val (.str f), .val (.int v)] ∧ (OrdK fs gl ∧ vs.length = fs.length ∧ f ∈ fs) ∧ Q (.val (.tup (intL (stopL fs gl vs f v)))) ss
def sp_with_push : FS := fun ss Q E => ∃ (fs : List Str) (gl : GL) (vs : List Int) (f : Str) (v : Int), ss = [.val (ordD fs gl), .val (.tup (intL vs)), .val (.str f), .val (.int v)] ∧ (OrdK fs gl ∧ vs.length = fs.length ∧ f ∈ fs) ∧ Q (.val (.tup (intL (pushL fs gl vs f v)))) ss
def setL (fs : List Str) (gl : GL) (ps : List Str) (vs : List Int) (p : Str × Int) : List Int := if p.1 ∈ ps then pushL fs gl vs p.1 p.2 else stopL fs gl vs p.1 p.2
def sp_after : FS := fun ss Q E => ∃ (fs : List Str) (gl : GL) (vs : List Int) (p : Str × Int) (t : Sk) (ps : List Str), ss = [.val (ordD fs gl), .val (.tup (intL vs)), .val (prD p), .val (seqD t (strL ps))] ∧ (OrdK fs gl ∧ vs.length = fs.length ∧ p.1 ∈ fs) ∧ Q (.val (.tup (intL (setL fs gl ps vs p)))) ss
def sp_need_row : FS := fun ss Q E => ∃ (fs : List Str) (gl : GL) (t u : Sk) (row : List (Str × Int)) (ps : List Str), ss = [.val (ordD fs gl), .val (seqD t (row.map prD)), .val (seqD u (strL ps))] ∧ ((∀ x ∈ ps, x ∈ fs) ∧ ∀ p ∈ row, p.1 ∈ fs) ∧ Q (.val .non) ss
def doneL (fs : List Str) (gl : GL) (ps : List Str) (row : List (Str × Int)) (vs : List Int) : List Int := row.foldl (setL fs gl ps) vs
def sp_done : FS := fun ss Q E => ∃ (fs : List Str) (gl : GL) (t u : Sk) (row : List (Str × Int)) (vs : List Int) (ps : List Str), ss = [.val (ordD fs gl), .val (seqD t (row.map prD)), .val (.tup (intL vs)), .val (seqD u (strL ps))] ∧
  (OrdK fs gl ∧ vs.length = fs.length ∧ meetB fs gl vs = true ∧ (∀ x ∈ ps, x ∈ fs) ∧ ∀ p ∈ row, p.1 ∈ fs) ∧ Q (.val (.tup (intL (doneL fs gl ps row vs)))) [.val (ordD fs gl), .val (seqD t (row.map prD)), .non, .val (seqD u (strL ps))]
theorem stop_len {fs : List Str} {gl : GL} {vs : List Int} {f : Str} {v : Int} : (stopL fs gl vs f v).length = vs.length := by unfold stopL; exact List.length_set
theorem foldl_len {α : Type} {g : List Int → α → List Int} (hg : ∀ w a, (g w a).length = w.length) : ∀ (l : List α) (w : List Int), (l.foldl g w).length = w.length
  | [], _ => rfl
  | a :: l, w => by rw [List.foldl_cons, foldl_len hg l, hg]
theorem push_len {fs : List Str} {gl : GL} {vs : List Int} {f : Str} {v : Int} : (pushL fs gl vs f v).length = vs.length := by
  unfold pushL
  rw [foldl_len (fun w a => by unfold pushDn; exact List.length_set), foldl_len (fun w a => by unfold pushUp; exact List.length_set), List.length_set]
theorem set_len {fs : List Str} {gl : GL} {ps : List Str} {vs : List Int} {p : Str × Int} : (setL fs gl ps vs p).length = vs.length := by
  unfold setL
  split
  · exact push_len
  · exact stop_len
/-- the value of a field, by its place -/
theorem giv_at : ∀ {fs : List Str} {vs : List Int} {n : Str}, vs.length = fs.length → n ∈ fs → vs[plI fs n]? = some (giv fs vs n)
  | [], _, _, _, h => nomatch h
  | x :: fs, [], _, hl, _ => nomatch hl
  | x :: fs, v :: vs, n, hl, h => by
    by_cases e : x = n
    · subst e
      have e1 : plI (x :: fs) x = 0 := by unfold plI; simp [List.findIdx?_cons]
      have e2 : giv (x :: fs) (v :: vs) x = v := by unfold giv valG; simp
      rw [e1, e2]; rfl
    · have hn : n ∈ fs := by
        rcases List.mem_cons.mp h with h | h
        · exact absurd h.symm e
        · exact h
      have ih := giv_at (fs := fs) (vs := vs) (n := n) (by simpa using hl) hn
      have e1 : plI (x :: fs) n = plI fs n + 1 := by
        have := pl_some hn
        unfold plI at this ⊢
        rw [List.findIdx?_cons]
        simp only [e, decide_false, Bool.false_eq_true, if_false, Option.map]
        rw [this]; rfl
      have e2 : giv (x :: fs) (v :: vs) n = giv fs vs n := by unfold giv valG; simp [e]
      rw [e1, e2]
      exact ih
theorem atG_nat {α : Type} {xs : List α} {i : Nat} {x : α} (h : xs[i]? = some x) : atG xs (i : Int) = some x := by
  have hi := (List.getElem?_eq_some_iff.mp h).1
  unfold atG ixG
  rw [if_pos (by omega), if_pos (by omega)]
  simpa using h
theorem ixG_nat {n i : Nat} (h : i < n) : ixG n (i : Int) = some i := by
  unfold ixG
  rw [if_pos (by omega), if_pos (by omega)]
  simp
theorem int_at {vs : List Int} {i : Nat} {x : Int} (h : vs[i]? = some x) : atG (intL vs) (i : Int) = some (.int x) := atG_nat (by unfold intL; rw [List.getElem?_map, h]; rfl)
theorem int_set {vs : List Int} {i : Nat} {x : Int} : (intL vs).set i (.int x) = intL (vs.set i x) := by unfold intL; rw [List.map_set]
theorem intL_len {vs : List Int} : (intL vs).length = vs.length := by unfold intL; exact List.length_map ..
theorem ints_L {vs : List Int} : intsOf (intL vs) = some vs := ints_map vs
theorem strs_flat (ns : List Str) : (strL ns).all D.flat = true := by
  unfold strL
  rw [List.all_map, List.all_eq_true]
  intro x _; rfl
theorem strs_deps (ns : List Str) : D.deps (strL ns) = 0 := by
  induction ns with
  | nil => rfl
  | cons x ns ih => show max 0 (D.deps (strL ns)) = 0; rw [ih]; rfl
theorem in_strs {x : Str} {ns : List Str} : inG (.str x) (strL ns) = decide (x ∈ ns) := by
  unfold inG strL
  rw [List.any_map]
  by_cases h : x ∈ ns
  · rw [decide_eq_true h, List.any_eq_true]
    exact ⟨x, h, by show (x == x) = true; simp⟩
  · rw [decide_eq_false h, Bool.eq_false_iff]
    intro z
    obtain ⟨y, hy, e⟩ := List.any_eq_true.mp z
    have : (y == x) = true := e
    rw [beq_iff_eq] at this
    exact h (by rw [← this]; exact hy)
theorem items_gd {gl : GL} : ((gd gl).map fun kv => D.tup [.tup (kv.1.map kD), kv.2]) = gl.map fun p => D.tup [.tup [.str p.1.1, .str p.1.2], .int p.2] := by
  unfold gd
  rw [List.map_map]
  rfl
section
variable {Γ : Nat → FS} {ss : List Slot} {Q : Res → List Slot → Prop} {E : Xc → List Slot → Prop}
theorem ok_is_integer (h : sp_is_integer ss Q E) : runD Γ 1 ir_is_integer ss Q E := by
  obtain ⟨d, rfl, hd, q⟩ := h
  refine run_of _ rfl rfl (by simp) fun K hr hn he => ?_
  unfold ir_is_integer
  infer_instance
  refine cons_run (retN_run ?_)
  infer_instance
  refine ⟨hd, ?_⟩
  by_cases c : isiB .int d = true
  · rw [if_pos c]
    refine ⟨hd, hr _ _ _ rfl ?_⟩
    have := isInt_b hd
    rw [c, Bool.true_and] at this
    rw [this]; exact q
  · rw [if_neg c]
    refine hr _ _ _ rfl ?_
    have := isInt_b hd
    rw [Bool.eq_false_iff.mpr c, Bool.false_and] at this
    rw [this]; exact q
theorem ok_place (h : sp_place ss Q E) : runD Γ 2 ir_Order_place ss Q E := by
  obtain ⟨fs, gl, n, rfl, hn', q⟩ := h
  refine run_of _ rfl rfl (by simp) fun K hr hn he => ?_
  unfold ir_Order_place ordD
  infer_instance
  refine cons_run (retN_run ?_)
  exists att_fields, strs_map
  rw [pl_some hn']
  exact hr _ _ _ rfl q
theorem ok_need_fields (h : sp_need_fields ss Q E) : runD Γ 3 ir_need_fields ss Q E := by
  obtain ⟨fs, gl, t, ns, rfl, hin, q⟩ := h
  refine run_of _ rfl rfl (by simp) fun K hr hn he => ?_
  unfold ir_need_fields ordD
  infer_instance
  refine cons_run (forM_run (g := none) D.str ns (fun p ρ => ∃ s2, ρ = [.val (.obj 0 (ordF fs gl)), .val (seqD t (strL ns)), s2]) (fun Q' h => ?_) (fun _ z => nomatch z) ⟨.non, rfl⟩ (fun _ _ _ => trivial) (fun p y r ρ e ⟨s2, eρ⟩ => ?_) fun ρ2 ⟨s2, eρ⟩ => ?_)
  · exists items_seq
    exact h
  · subst eρ
    refine ⟨_, rfl, fun K1 k1 k2 k3 k4 k5 => ?_⟩
    refine cons_run (if_run ?_)
    exists att_fields
    refine ⟨strs_flat fs, ?_⟩
    rw [in_strs, decide_eq_true (hin y (by rw [e]; simp))]
    infer_instance
    exact nil_run (nil_run (Γ := Γ) (k5 _ ⟨_, rfl⟩))
  · subst eρ
    exact nil_run (Γ := Γ) (hn _ _ rfl q)
end
section
variable {Γ : Nat → FS} {ss : List Slot} {Q : Res → List Slot → Prop} {E : Xc → List Slot → Prop}
theorem isi_tup {d : D} : isiB .tuple d = (match d with | .tup _ => true | .ftp _ => true | _ => false) := by cases d <;> rfl
theorem ints_none : ∀ {ds : List D}, (ds.all isIntD = true ↔ ∃ vs, intsOf ds = some vs)
  | [] => ⟨fun _ => ⟨[], rfl⟩, fun _ => rfl⟩
  | d :: ds => by
    constructor
    · intro h
      simp only [List.all_cons, Bool.and_eq_true] at h
      obtain ⟨vs, e⟩ := ints_none.mp h.2
      cases d with
      | int i => exact ⟨i :: vs, by show (match intsOf ds with | some r => some (i :: r) | none => none) = _; rw [e]⟩
      | _ => cases h.1
    · rintro ⟨vs, e⟩
      cases d with
      | int i =>
        have e2 : (match intsOf ds with | some r => some (i :: r) | none => none) = some vs := e
        split at e2
        · rename_i r er
          simp only [List.all_cons, Bool.and_eq_true]
          exact ⟨rfl, ints_none.mpr ⟨r, er⟩⟩
        · cases e2
      | _ => cases e
theorem ints_eq : ∀ {ds : List D} {vs : List Int}, intsOf ds = some vs → ds = intL vs
  | [], vs, e => by cases e; rfl
  | d :: ds, vs, e => by
    cases d with
    | int i =>
      have e2 : (match intsOf ds with | some r => some (i :: r) | none => none) = some vs := e
      split at e2
      · rename_i r er
        cases e2
        rw [ints_eq er]; rfl
      · cases e2
    | _ => cases e
theorem ok_contains (h4 : Γ 4 = sp_is_integer) (h : sp_contains ss Q E) : runD Γ 8 ir_Order_contains ss Q E := by
  obtain ⟨fs, gl, d, rfl, ⟨ok, ask⟩, q⟩ := h
  have hb : big = 16777216 := rfl
  have hlen := ok.len
  refine run_of _ rfl rfl (by simp) fun K hr hn he => ?_
  unfold ir_Order_contains ordD
  have q : ∀ b, stB fs gl d = b → Q (.val (.bl b)) [.val (.obj 0 (ordF fs gl)), .val d] := fun b hb => by rw [← hb]; exact q
  by_cases hd : ∃ ds, d = .tup ds
  · obtain ⟨ds, rfl⟩ := hd
    infer_instance
    refine cons_run (if_run ?_)
    exists att_fields
    by_cases c : ds.length = fs.length
    · have e1 : ((ds.length : Int) == ((strL fs).length : Int)) = true := by rw [beq_iff_eq]; unfold strL; rw [List.length_map]; omega
      rw [e1]
      infer_instance
      refine nil_run (cons_run (if_run ?_))
      infer_instance
      refine lcpM_run (g := none) id ds (fun x => .bl (isIntD x)) _ (fun Q' h => ?_) rfl rfl (noOwn_lit rfl) (fun _ z => nomatch z) (by simp [Tg.slots, Tg.slots.slotsT]) trivial (fun y hy K h => ?_) ?_
      · exists List.map_id
        rw [List.map_id] at h
        exact h
      · exists h4, id
        refine ⟨y, rfl, List.all_eq_true.mp ask y hy, ?_⟩
        infer_instance
        exact h
      · have e2 : (ds.map fun x => D.bl (isIntD x)) = (ds.map isIntD).map D.bl := by rw [List.map_map]; rfl
        rw [e2]
        exists bls_map
        have e3 : (ds.map isIntD).all id = ds.all isIntD := by rw [List.all_map]; rfl
        rw [e3]
        by_cases c2 : ds.all isIntD = true
        · obtain ⟨vs, ev⟩ := ints_none.mp c2
          have := ints_eq ev
          subst this
          have hl : vs.length = fs.length := by rw [← c, intL_len]
          rw [c2]
          infer_instance
          refine nil_run (cons_run (asgN_run ?_))
          infer_instance
          refine dcpK_run (g := none) prD (fs.zip vs) (fun _ => true) (fun p => .inr p.1) (fun p => .int p.2) _ (by rw [List.length_zip]; omega) (fun Q' h => ?_) rfl rfl (noOwn_lit rfl) (fun _ z => nomatch z) (by simp [Tg.slots, Tg.slots.slotsT]) trivial (fun y hy kvs K hk h => ?_) ?_
          · exists att_fields
            rw [zip_strs]; exact h
          · unfold prD
            infer_instance
            exact ⟨hk, h⟩
          rw [zip_dict ok.nd hl]
          infer_instance
          refine cons_run (retN_run ?_)
          infer_instance
          refine lcpM_run (g := none) (fun p : (Str × Str) × Int => .tup [.tup [.str p.1.1, .str p.1.2], .int p.2]) gl (fun p => .bl (decide (giv fs vs p.1.1 + p.2 ≤ giv fs vs p.1.2))) _ (fun Q' h => ?_) rfl rfl (noOwn_lit rfl) (fun _ z => nomatch z) (by simp [Tg.slots, Tg.slots.slotsT]) trivial (fun y hy K h => ?_) ?_
          · exists att_gaps
            rw [items_gd]
            exact h
          · infer_instance
            have hm := ok.g.inF y.1 (List.mem_map.mpr ⟨y, hy, rfl⟩)
            rw [giv_mem hl hm.1]
            infer_instance
            rw [giv_mem hl hm.2]
            infer_instance
            exact h
          · have e4 : (gl.map fun p => D.bl (decide (giv fs vs p.1.1 + p.2 ≤ giv fs vs p.1.2))) = (gl.map fun p => decide (giv fs vs p.1.1 + p.2 ≤ giv fs vs p.1.2)).map D.bl := by rw [List.map_map]; rfl
            rw [e4]
            exists bls_map
            refine hr _ _ _ rfl (q _ ?_)
            show (decide ((intL vs).length = fs.length) && match intsOf (intL vs) with | some vs => meetB fs gl vs | none => false) = _
            rw [ints_L, decide_eq_true c]
            unfold meetB
            rw [List.all_map]; rfl
        · rw [Bool.eq_false_iff.mpr c2]
          infer_instance
          refine cons_run (retN_run ?_)
          infer_instance
          refine hr _ _ _ rfl (q _ ?_)
          show (decide (ds.length = fs.length) && match intsOf ds with | some vs => meetB fs gl vs | none => false) = _
          cases e : intsOf ds with
          | none => simp
          | some vs => exact absurd (ints_none.mpr ⟨vs, e⟩) c2
    · have e1 : ((ds.length : Int) == ((strL fs).length : Int)) = false := by rw [beq_eq_false_iff_ne]; unfold strL; rw [List.length_map]; omega
      rw [e1]
      infer_instance
      refine cons_run (retN_run ?_)
      infer_instance
      refine hr _ _ _ rfl (q _ ?_)
      show (decide (ds.length = fs.length) && _) = _
      rw [decide_eq_false c]; rfl
  · have e : isiB .tuple d = false ∧ isiOk d = true ∧ stB fs gl d = false := by
      cases d with
      | tup ds => exact absurd ⟨ds, rfl⟩ hd
      | ftp ds => cases ask
      | _ => exact ⟨rfl, ask, rfl⟩
    obtain ⟨e1, e2, e3⟩ := e
    have e2' := e2
    unfold isiOk at e2'
    infer_instance
    refine cons_run (if_run ?_)
    exists e1
    refine ⟨e2', ?_⟩
    refine cons_run (retN_run ?_)
    infer_instance
    exact hr _ _ _ rfl (q _ e3)
theorem ok_need_state (h103 : Γ 103 = sp_contains) (h : sp_need_state ss Q E) : runD Γ 2 ir_need_state ss Q E := by
  obtain ⟨fs, gl, d, rfl, ⟨ok, ask⟩, hst, q⟩ := h
  refine run_of _ rfl rfl (by simp) fun K hr hn he => ?_
  unfold ir_need_state ordD
  infer_instance
  refine cons_run (if_run ?_)
  exists h103
  refine ⟨fs, gl, d, rfl, ⟨ok, ask⟩, ?_⟩
  rw [hst]
  infer_instance
  exact nil_run (Γ := Γ) (nil_run (Γ := Γ) (hn _ _ rfl q))
end
/-! ### bounds, settings, rows -/
section
variable {Γ : Nat → FS} {ss : List Slot} {Q : Res → List Slot → Prop} {E : Xc → List Slot → Prop}
theorem ok_bounds (h106 : Γ 106 = sp_place) (h : sp_bounds ss Q E) : runD Γ 8 ir_bounds ss Q E := by
  obtain ⟨fs, gl, vs, f, rfl, ⟨ok, hl, hf⟩, q⟩ := h
  refine run_of _ rfl rfl (by simp) fun K hr hn he => ?_
  unfold ir_bounds ordD
  infer_instance
  refine cons_run (asgN_run ?_)
  infer_instance
  refine lcpM_run (g := none) prD (undL fs gl f) (fun p => .int (giv fs vs p.1 + p.2)) _ (fun Q' h => ?_) rfl rfl (noOwn_lit rfl) (fun _ z => nomatch z) (by simp [Tg.slots, Tg.slots.slotsT]) trivial (fun z hz K h => ?_) ?_
  · exists att_under
    rw [valG_undD hf]
    infer_instance
    exact h
  · have hm := (und_mem hz).1
    unfold prD
    exists h106
    refine ⟨rfl, fs, gl, z.1, rfl, hm, ?_⟩
    infer_instance
    rw [int_at (giv_at hl hm)]
    infer_instance
    exact h
  infer_instance
  refine cons_run (asgN_run ?_)
  infer_instance
  refine lcpM_run (g := none) prD (ovrL fs gl f) (fun p => .int (giv fs vs p.1 - p.2)) _ (fun Q' h => ?_) rfl rfl (noOwn_lit rfl) (fun _ z => nomatch z) (by simp [Tg.slots, Tg.slots.slotsT]) trivial (fun z hz K h => ?_) ?_
  · exists att_over
    rw [valG_ovrD hf]
    infer_instance
    exact h
  · have hm := (ovr_mem hz).1
    unfold prD
    exists h106
    refine ⟨rfl, fs, gl, z.1, rfl, hm, ?_⟩
    infer_instance
    rw [int_at (giv_at hl hm)]
    infer_instance
    exact h
  infer_instance
  refine cons_run (retN_run ?_)
  infer_instance
  refine hr _ _ _ rfl ?_
  have e1 : ((undL fs gl f).map fun p => D.int (giv fs vs p.1 + p.2)) = intL (lowsL fs gl vs f) := by unfold intL lowsL; rw [List.map_map]; rfl
  have e2 : ((ovrL fs gl f).map fun p => D.int (giv fs vs p.1 - p.2)) = intL (highL fs gl vs f) := by unfold intL highL; rw [List.map_map]; rfl
  rw [e1, e2]
  exact q
theorem blt_maxN {l : List Int} {Q : Res → Prop} (h : l ≠ []) (q : Q (.val (.int (maxN l)))) : bltW .max1 [.lst (intL l)] Q := by
  show (match intsOf (intL l) with | some (n :: ns) => Q (.val (.int (maxL n ns))) | _ => False)
  rw [ints_L]
  cases l with
  | nil => exact absurd rfl h
  | cons n ns => exact q
theorem blt_minN {l : List Int} {Q : Res → Prop} (h : l ≠ []) (q : Q (.val (.int (minN l)))) : bltW .min1 [.lst (intL l)] Q := by
  show (match intsOf (intL l) with | some (n :: ns) => Q (.val (.int (minL n ns))) | _ => False)
  rw [ints_L]
  cases l with
  | nil => exact absurd rfl h
  | cons n ns => exact q
theorem app_int {l : List Int} {v : Int} : intL l ++ [D.int v] = intL (l ++ [v]) := by unfold intL; rw [List.map_append]; rfl
theorem lows_len {fs : List Str} {gl : GL} {vs : List Int} {f : Str} : (lowsL fs gl vs f).length ≤ fs.length := by unfold lowsL; rw [List.length_map]; exact und_len
theorem high_len {fs : List Str} {gl : GL} {vs : List Int} {f : Str} : (highL fs gl vs f).length ≤ fs.length := by unfold highL; rw [List.length_map]; exact ovr_len
theorem ok_with_stop (h10 : Γ 10 = sp_bounds) (h106 : Γ 106 = sp_place) (h : sp_with_stop ss Q E) : runD Γ 7 ir_with_stop ss Q E := by
  obtain ⟨fs, gl, vs, f, v, rfl, ⟨ok, hl, hf⟩, q⟩ := h
  have hb : big = 16777216 := rfl
  have hlen := ok.len
  have l1 := lows_len (fs := fs) (gl := gl) (vs := vs) (f := f)
  have l2 := high_len (fs := fs) (gl := gl) (vs := vs) (f := f)
  refine run_of _ rfl rfl (by simp) fun K hr hn he => ?_
  unfold ir_with_stop ordD
  infer_instance
  refine cons_run (asgT_run ?_)
  exists h10
  refine ⟨fs, gl, vs, f, rfl, ⟨ok, hl, hf⟩, ?_⟩
  infer_instance
  refine cons_run (asgN_run ?_)
  infer_instance
  refine cons_run (sti_run ?_)
  exists intL_len
  refine ⟨by omega, ?_⟩
  have ne : ∀ (l : List Int) (x : Int), ∃ n ns, l ++ [x] = n :: ns := fun l x => by cases l <;> exact ⟨_, _, rfl⟩
  obtain ⟨n, ns, en⟩ := ne (highL fs gl vs f) v
  have em : minL n ns = minN (highL fs gl vs f ++ [v]) := by rw [en]; rfl
  rw [app_int, ints_L, en]
  dsimp only
  rw [em]
  refine ⟨by omega, ?_⟩
  obtain ⟨m, ms, e2⟩ := ne (lowsL fs gl vs f) (minN (highL fs gl vs f ++ [v]))
  have ev : maxL m ms = stopV fs gl vs f v := by unfold stopV; rw [e2]; rfl
  rw [app_int, ints_L, e2]
  dsimp only
  rw [ev, h106]
  refine ⟨rfl, fs, gl, f, rfl, hf, ?_⟩
  infer_instance
  rw [ixG_nat (by rw [intL_len, hl]; exact (pl_get hf).1)]
  infer_instance
  refine cons_run (retN_run ?_)
  infer_instance
  refine hr _ _ _ rfl ?_
  rw [int_set]
  exact q
theorem ok_after (h12 : Γ 12 = sp_with_stop) (h13 : Γ 13 = sp_with_push) (h : sp_after ss Q E) : runD Γ 6 ir_after_setting ss Q E := by
  obtain ⟨fs, gl, vs, ⟨f, v⟩, t, ps, rfl, ⟨ok, hl, hf⟩, q⟩ := h
  refine run_of _ rfl rfl (by simp) fun K hr hn he => ?_
  unfold ir_after_setting ordD prD
  infer_instance
  refine cons_run (asgT_run ?_)
  infer_instance
  refine cons_run (if_run ?_)
  infer_instance
  have hm : ∀ R : Bool → Prop, R (decide (f ∈ ps)) → isMem (.str f) (seqD t (strL ps)) R := fun R r => by
    cases t with
    | l => exact ⟨⟨rfl, strs_plain ps, Nat.zero_le _, by rw [strs_deps]; decide⟩, by rw [inG_str]; exact r⟩
    | t => exact ⟨⟨rfl, strs_flat ps⟩, by rw [inG_str]; exact r⟩
    | f => exact ⟨⟨rfl, strs_flat ps⟩, by rw [inG_str]; exact r⟩
  refine hm _ ?_
  by_cases c : f ∈ ps
  · rw [if_pos (by simpa using c)]
    refine cons_run (retN_run ?_)
    exists h13
    refine ⟨fs, gl, vs, f, v, rfl, ⟨ok, hl, hf⟩, ?_⟩
    infer_instance
    refine hr _ _ _ rfl ?_
    have e : setL fs gl ps vs (f, v) = pushL fs gl vs f v := if_pos c
    rw [← e]
    exact q
  · rw [if_neg (by simpa using c)]
    refine nil_run (cons_run (retN_run ?_))
    exists h12
    refine ⟨fs, gl, vs, f, v, rfl, ⟨ok, hl, hf⟩, ?_⟩
    infer_instance
    refine hr _ _ _ rfl ?_
    have e : setL fs gl ps vs (f, v) = stopL fs gl vs f v := if_neg c
    rw [← e]
    exact q
theorem ok_need_row (h9 : Γ 9 = sp_need_fields) (h : sp_need_row ss Q E) : runD Γ 5 ir_need_row ss Q E := by
  obtain ⟨fs, gl, t, u, row, ps, rfl, ⟨h1, h2⟩, q⟩ := h
  refine run_of _ rfl rfl (by simp) fun K hr hn he => ?_
  unfold ir_need_row ordD
  infer_instance
  refine cons_run (exp_run ?_)
  exists h9
  refine ⟨fs, gl, u, ps, rfl, h1, ?_⟩
  infer_instance
  refine cons_run (exp_run ?_)
  infer_instance
  refine lcpM_run (g := none) prD row (fun p => .str p.1) _ (fun Q' h => ?_) rfl rfl (noOwn_lit rfl) (fun _ z => nomatch z) (by simp [Tg.slots, Tg.slots.slotsT]) trivial (fun z hz K h => ?_) ?_
  · exists items_seq
    exact h
  · unfold prD
    infer_instance
    exact h
  have e : (row.map fun p => D.str p.1) = strL (row.map (·.1)) := by unfold strL; rw [List.map_map]; rfl
  rw [e]
  exists h9
  refine ⟨fs, gl, .l, row.map (·.1), rfl, fun x hx => ?_, ?_⟩
  · obtain ⟨p, hp, rfl⟩ := List.mem_map.mp hx
    exact h2 p hp
  infer_instance
  exact nil_run (Γ := Γ) (hn _ _ rfl q)
end
section
variable {Γ : Nat → FS} {ss : List Slot} {Q : Res → List Slot → Prop} {E : Xc → List Slot → Prop}
theorem up_len {fs : List Str} {v : Int} (l : List (Str × Int)) (w : List Int) : (l.foldl (pushUp fs v) w).length = w.length := foldl_len (fun w a => by unfold pushUp; exact List.length_set) l w
theorem dn_len {fs : List Str} {v : Int} (l : List (Str × Int)) (w : List Int) : (l.foldl (pushDn fs v) w).length = w.length := foldl_len (fun w a => by unfold pushDn; exact List.length_set) l w
theorem getD_at {w : List Int} {i : Nat} (h : i < w.length) : w[i]? = some (w.getD i 0) := by rw [List.getD_eq_getElem?_getD, List.getElem?_eq_getElem h]; rfl
theorem ok_with_push (h106 : Γ 106 = sp_place) (h : sp_with_push ss Q E) : runD Γ 9 ir_with_push ss Q E := by
  obtain ⟨fs, gl, vs, f, v, rfl, ⟨ok, hl, hf⟩, q⟩ := h
  have hb : big = 16777216 := rfl
  have hlen := ok.len
  refine run_of _ rfl rfl (by simp) fun K hr hn he => ?_
  unfold ir_with_push ordD
  infer_instance
  refine cons_run (asgN_run ?_)
  infer_instance
  refine cons_run (sti_run ?_)
  exists h106
  refine ⟨rfl, fs, gl, f, rfl, hf, ?_⟩
  infer_instance
  rw [ixG_nat (by rw [intL_len, hl]; exact (pl_get hf).1)]
  infer_instance
  rw [int_set]
  refine cons_run (forM_run (g := none) prD (ovrL fs gl f) (fun p ρ => ∃ s5 s6 s7, ρ = [.val (.obj 0 (ordF fs gl)), .val (.tup (intL vs)), .val (.str f), .val (.int v), .own (.lst (intL (p.foldl (pushUp fs v) (vs.set (plI fs f) v)))), s5, s6, s7, .non]) (fun Q' h => ?_) (fun _ z => nomatch z) ⟨_, _, _, rfl⟩ (fun _ _ _ => trivial) (fun p y r ρ e ⟨s5, s6, s7, eρ⟩ => ?_) fun ρ ⟨s5, s6, s7, eρ⟩ => ?_)
  · exists att_over
    rw [valG_ovrD hf]
    infer_instance
    exact h
  · subst eρ
    have hm := (ovr_mem (p := y) (by rw [e]; simp : y ∈ ovrL fs gl f)).1
    have hi : plI fs y.1 < (p.foldl (pushUp fs v) (vs.set (plI fs f) v)).length := by rw [up_len, List.length_set, hl]; exact (pl_get hm).1
    refine ⟨_, rfl, fun K1 k1 k2 k3 k4 k5 => cons_run (asgN_run ?_)⟩
    exists h106
    refine ⟨rfl, fs, gl, y.1, rfl, hm, ?_⟩
    infer_instance
    refine cons_run (sti_run ?_)
    infer_instance
    rw [int_at (getD_at hi)]
    infer_instance
    rw [ixG_nat (by rw [intL_len]; exact hi)]
    infer_instance
    rw [int_set]
    refine nil_run (Γ := Γ) (k5 _ ?_)
    simp only [List.foldl_append, List.foldl_cons, List.foldl_nil]
    exact ⟨_, _, _, rfl⟩
  · subst eρ
    refine cons_run (forM_run (g := none) prD (undL fs gl f) (fun p ρ => ∃ s5 s6 s7 s8, ρ = [.val (.obj 0 (ordF fs gl)), .val (.tup (intL vs)), .val (.str f), .val (.int v), .own (.lst (intL (p.foldl (pushDn fs v) ((ovrL fs gl f).foldl (pushUp fs v) (vs.set (plI fs f) v))))), s5, s6, s7, s8]) (fun Q' h => ?_) (fun _ z => nomatch z) ⟨_, _, _, _, rfl⟩ (fun _ _ _ => trivial) (fun p y r ρ e ⟨s5, s6, s7, s8, eρ⟩ => ?_) fun ρ ⟨s5, s6, s7, s8, eρ⟩ => ?_)
    · exists att_under
      rw [valG_undD hf]
      infer_instance
      exact h
    · subst eρ
      have hm := (und_mem (p := y) (by rw [e]; simp : y ∈ undL fs gl f)).1
      have hi : plI fs y.1 < (p.foldl (pushDn fs v) ((ovrL fs gl f).foldl (pushUp fs v) (vs.set (plI fs f) v))).length := by rw [dn_len, up_len, List.length_set, hl]; exact (pl_get hm).1
      refine ⟨_, rfl, fun K1 k1 k2 k3 k4 k5 => cons_run (asgN_run ?_)⟩
      exists h106
      refine ⟨rfl, fs, gl, y.1, rfl, hm, ?_⟩
      infer_instance
      refine cons_run (sti_run ?_)
      infer_instance
      rw [int_at (getD_at hi)]
      infer_instance
      rw [ixG_nat (by rw [intL_len]; exact hi)]
      infer_instance
      rw [int_set]
      refine nil_run (Γ := Γ) (k5 _ ?_)
      simp only [List.foldl_append, List.foldl_cons, List.foldl_nil]
      exact ⟨_, _, _, _, rfl⟩
    · subst eρ
      refine cons_run (retN_run ?_)
      infer_instance
      exact hr _ _ _ rfl q
theorem done_len {fs : List Str} {gl : GL} {ps : List Str} (l : List (Str × Int)) (w : List Int) : (l.foldl (setL fs gl ps) w).length = w.length := foldl_len (fun w a => set_len) l w
theorem ok_done (h8 : Γ 8 = sp_need_state) (h14 : Γ 14 = sp_after) (h15 : Γ 15 = sp_need_row) (h : sp_done ss Q E) : runD Γ 5 ir_done ss Q E := by
  obtain ⟨fs, gl, t, u, row, vs, ps, rfl, ⟨ok, hl, hm, hps, hrow⟩, q⟩ := h
  refine run_of _ rfl rfl (by simp) fun K hr hn he => ?_
  unfold ir_done ordD
  infer_instance
  refine cons_run (exp_run ?_)
  exists h8
  refine ⟨fs, gl, .tup (intL vs), rfl, ⟨ok, ?_⟩, ?_, ?_⟩
  · show (intL vs).all isiOk = true
    unfold intL
    rw [List.all_map, List.all_eq_true]
    intro x _; rfl
  · show (decide ((intL vs).length = fs.length) && match intsOf (intL vs) with | some vs => meetB fs gl vs | none => false) = true
    rw [ints_L, intL_len, decide_eq_true hl]
    exact hm
  infer_instance
  refine cons_run (exp_run ?_)
  exists h15
  refine ⟨fs, gl, t, u, row, ps, rfl, ⟨hps, hrow⟩, ?_⟩
  infer_instance
  refine cons_run (forM_run (g := none) prD row (fun p ρ => ∃ s4, ρ = [.val (.obj 0 (ordF fs gl)), .val (seqD t (row.map prD)), .val (.tup (intL (p.foldl (setL fs gl ps) vs))), .val (seqD u (strL ps)), s4]) (fun Q' h => ?_) (fun _ z => nomatch z) ⟨_, rfl⟩ (fun _ _ _ => trivial) (fun p y r ρ e ⟨s4, eρ⟩ => ?_) fun ρ ⟨s4, eρ⟩ => ?_)
  · exists items_seq
    exact h
  · subst eρ
    refine ⟨_, rfl, fun K1 k1 k2 k3 k4 k5 => cons_run (asgN_run ?_)⟩
    exists h14
    refine ⟨fs, gl, _, y, u, ps, rfl, ⟨ok, by rw [done_len]; exact hl, hrow y (by rw [e]; simp)⟩, ?_⟩
    infer_instance
    refine nil_run (Γ := Γ) (k5 _ ?_)
    simp only [List.foldl_append, List.foldl_cons, List.foldl_nil]
    exact ⟨_, rfl⟩
  · subst eρ
    refine cons_run (retN_run ?_)
    infer_instance
    exact hr _ _ _ rfl q
end
/-! ### small things -/
theorem ints_len {vs : List Int} : (intL vs).length = vs.length := by unfold intL; rw [List.length_map]
theorem ints_of {ds : List D} (h : ∀ d ∈ ds, ∃ i, d = .int i) : ∃ vs, ds = intL vs := by
  induction ds with
  | nil => exact ⟨[], rfl⟩
  | cons d ds ih =>
    obtain ⟨i, rfl⟩ := h d (by simp)
    obtain ⟨vs, rfl⟩ := ih fun d hd => h d (by simp [hd])
    exact ⟨i :: vs, rfl⟩
theorem eqvs_ints : ∀ vs : List Int, D.eqvs (intL vs) (intL vs) = true
  | [] => rfl
  | v :: vs => by show ((v == v) && D.eqvs (intL vs) (intL vs)) = true; rw [eqvs_ints vs]; simp
theorem ints_plain' (l : List Int) : D.plains (intL l) = true := by
  induction l with
  | nil => rfl
  | cons x l ih => show (true && D.plains (intL l)) = true; rw [ih]; rfl
theorem ints_dep (l : List Int) : D.deps (intL l) = 0 := by
  induction l with
  | nil => rfl
  | cons x l ih => show max 0 (D.deps (intL l)) = 0; rw [ih]; rfl
theorem range_at {n y : Nat} {p r : List Nat} (e : List.range n = p ++ y :: r) : y = p.length ∧ p.length < n := by
  have h1 : (List.range n)[p.length]? = some y := by rw [e]; simp
  have h2 : p.length < n := by
    have := congrArg List.length e
    simp at this
    omega
  rw [List.getElem?_range h2] at h1
  cases h1
  exact ⟨rfl, h2⟩
theorem ints_atN {vs : List Int} {i : Nat} (h : i < vs.length) : atG (intL vs) (0 + (i : Int)) = some (.int vs[i]) := by
  obtain ⟨d, e, _, e2⟩ := at_some (xs := intL vs) (i := 0 + (i : Int)) (by omega) (by unfold intL; rw [List.length_map]; omega)
  rw [e]
  have : (0 + (i : Int)).toNat = i := by omega
  rw [this] at e2
  unfold intL at e2
  rw [List.getElem?_map, List.getElem?_eq_getElem h] at e2
  exact e2.symm
theorem strs_atN {fs : List Str} {i : Nat} (h : i < fs.length) : atG (strL fs) (0 + (i : Int)) = some (.str fs[i]) := by
  obtain ⟨x, e, e2⟩ := strs_atI (fs := fs) (i := 0 + (i : Int)) (by omega) (by omega)
  rw [e]
  have : (0 + (i : Int)).toNat = i := by omega
  rw [this, List.getElem?_eq_getElem h] at e2
  cases e2; rfl
theorem giv_ix {fs : List Str} {vs : List Int} (nd : fs.Nodup) (hl : vs.length = fs.length) {i : Nat} (h : i < fs.length) : giv fs vs fs[i] = vs[i] := by
  unfold giv
  have : (fs[i], vs[i]) ∈ fs.zip vs := by
    have : (fs.zip vs)[i]? = some (fs[i], vs[i]) := by simp [List.getElem?_zip_eq_some, h]
    exact List.mem_of_getElem? this
  rw [valG_of_mem (by rw [zip_keys hl]; exact nd) this]; rfl
def sp_named : FS := fun ss Q _ => ∃ (fs : List Str) (ls : List Lim) (line : List Str) (vs : List Int), ss = [.val (.dK (houseK fs ls line)), .val (.tup (intL vs))] ∧ (fs.Nodup ∧ fs.length ≤ 1000 ∧ vs.length = fs.length) ∧ Q (.own (.dK (dvK fs (giv fs vs)))) ss
theorem inG_int {x : Int} {l : List Int} : inG (.int x) (intL l) = decide (x ∈ l) := by
  induction l with
  | nil => rfl
  | cons y l ih =>
    have e : inG (.int x) (intL (y :: l)) = ((y == x) || inG (.int x) (intL l)) := rfl
    rw [e, ih]
    by_cases h : y = x
    · simp [h]
    · have : ¬ x = y := fun z => h z.symm
      simp [h, this]
/-! ### facts of a setting that stops -/
section
variable {fs : List Str} {ls : List Lim} {gl : GL} {vs : List Int} {f : Str} {v : Int}
theorem maxN_app {l : List Int} {x : Int} : (∀ y ∈ l, y ≤ maxN (l ++ [x])) ∧ x ≤ maxN (l ++ [x]) ∧ (maxN (l ++ [x]) = x ∨ maxN (l ++ [x]) ∈ l) := by
  cases l with
  | nil => exact ⟨(fun y h => nomatch h), Int.le_refl _, .inl rfl⟩
  | cons n ns =>
    have e : maxN (n :: ns ++ [x]) = maxL n (ns ++ [x]) := rfl
    rw [e]
    obtain ⟨h1, h2⟩ := maxL_geq (ns ++ [x]) n
    refine ⟨fun y hy => ?_, h2 x (by simp), ?_⟩
    · rcases List.mem_cons.mp hy with rfl | hy
      · exact h1
      · exact h2 y (by simp [hy])
    · rcases maxL_mem (ns ++ [x]) n with h | h
      · exact .inr (by rw [h]; simp)
      · rcases List.mem_append.mp h with h | h
        · exact .inr (by simp [h])
        · exact .inl (by simpa using h)
theorem minN_app {l : List Int} {x : Int} : (∀ y ∈ l, minN (l ++ [x]) ≤ y) ∧ minN (l ++ [x]) ≤ x ∧ (minN (l ++ [x]) = x ∨ minN (l ++ [x]) ∈ l) := by
  cases l with
  | nil => exact ⟨(fun y h => nomatch h), Int.le_refl _, .inl rfl⟩
  | cons n ns =>
    have e : minN (n :: ns ++ [x]) = minL n (ns ++ [x]) := rfl
    rw [e]
    obtain ⟨h1, h2⟩ := minL_leq (ns ++ [x]) n
    refine ⟨fun y hy => ?_, h2 x (by simp), ?_⟩
    · rcases List.mem_cons.mp hy with rfl | hy
      · exact h1
      · exact h2 y (by simp [hy])
    · rcases minL_mem (ns ++ [x]) n with h | h
      · exact .inr (by rw [h]; simp)
      · rcases List.mem_append.mp h with h | h
        · exact .inr (by simp [h])
        · exact .inl (by simpa using h)
theorem low_mem (gi : GInv fs ls gl) {a : Str} {g : Int} (e : valG gl (a, f) = some g) : giv fs vs a + g ∈ lowsL fs gl vs f := List.mem_map.mpr ⟨(a, g), undL_of gi e, rfl⟩
theorem high_mem (gi : GInv fs ls gl) {a : Str} {g : Int} (e : valG gl (f, a) = some g) : giv fs vs a - g ∈ highL fs gl vs f := List.mem_map.mpr ⟨(a, g), ovrL_of gi e, rfl⟩
theorem low_of {y : Int} (h : y ∈ lowsL fs gl vs f) : ∃ a g, valG gl (a, f) = some g ∧ y = giv fs vs a + g := by
  obtain ⟨p, hp, rfl⟩ := List.mem_map.mp h
  exact ⟨p.1, p.2, (und_mem hp).2, rfl⟩
theorem high_of {y : Int} (h : y ∈ highL fs gl vs f) : ∃ a g, valG gl (f, a) = some g ∧ y = giv fs vs a - g := by
  obtain ⟨p, hp, rfl⟩ := List.mem_map.mp h
  exact ⟨p.1, p.2, (ovr_mem hp).2, rfl⟩
/-- what a stop gives -/
structure StopOk (fs : List Str) (ls : List Lim) (u : Str → Int) (f : Str) (v w : Int) : Prop where
  lo : ∀ l ∈ ls, l.2.1 = f → u l.1 + l.2.2 ≤ w
  hi : ∀ l ∈ ls, l.1 = f → w ≤ u l.2.1 - l.2.2
  up : v < w → ∃ l ∈ ls, l.2.1 = f ∧ u l.1 + l.2.2 = w
  dn : w < v → ∃ l ∈ ls, l.1 = f ∧ u l.2.1 - l.2.2 = w
theorem stop_ok (gi : GInv fs ls gl) (hm : Meets ls (giv fs vs)) : StopOk fs ls (giv fs vs) f v (stopV fs gl vs f v) := by
  obtain ⟨x1, x2, x3⟩ := maxN_app (l := lowsL fs gl vs f) (x := minN (highL fs gl vs f ++ [v]))
  obtain ⟨n1, n2, n3⟩ := minN_app (l := highL fs gl vs f) (x := v)
  have cross : ∀ y ∈ lowsL fs gl vs f, ∀ z ∈ highL fs gl vs f, y ≤ z := fun y hy z hz => by
    obtain ⟨a, g, e1, rfl⟩ := low_of hy
    obtain ⟨b, h, e2, rfl⟩ := high_of hz
    have p1 := hm.path (gi.snd _ _ _ e1)
    have p2 := hm.path (gi.snd _ _ _ e2)
    omega
  have lo : ∀ l ∈ ls, l.2.1 = f → giv fs vs l.1 + l.2.2 ≤ stopV fs gl vs f v := fun l hl e => by
    obtain ⟨m, e1, h1⟩ := gi.lim l.1 l.2.1 l.2.2 hl
    rw [e] at e1
    have := x1 _ (low_mem gi e1)
    unfold stopV
    omega
  have hi : ∀ l ∈ ls, l.1 = f → stopV fs gl vs f v ≤ giv fs vs l.2.1 - l.2.2 := fun l hl e => by
    obtain ⟨m, e1, h1⟩ := gi.lim l.1 l.2.1 l.2.2 hl
    rw [e] at e1
    have k1 := n1 _ (high_mem (vs := vs) gi e1)
    unfold stopV
    rcases x3 with h | h
    · rw [h]; omega
    · have := cross _ h _ (high_mem gi e1)
      omega
  refine ⟨lo, hi, fun h => ?_, fun h => ?_⟩
  · have hs : stopV fs gl vs f v ∈ lowsL fs gl vs f := by
      rcases x3 with e | e
      · have : stopV fs gl vs f v = minN (highL fs gl vs f ++ [v]) := e
        omega
      · exact e
    obtain ⟨a, g, e1, e2⟩ := low_of hs
    obtain ⟨m, g2, h1, h2⟩ := (gi.snd _ _ _ e1).last
    refine ⟨(m, f, g2), h1, rfl, ?_⟩
    have k1 := lo _ h1 rfl
    rcases h2 with ⟨rfl, rfl⟩ | ⟨k, p, rfl⟩
    · exact e2.symm
    · have := hm.path p
      simp only at k1 ⊢
      omega
  · have hs : stopV fs gl vs f v = minN (highL fs gl vs f ++ [v]) ∧ minN (highL fs gl vs f ++ [v]) ∈ highL fs gl vs f := by
      rcases n3 with e | e
      · exfalso
        have : minN (highL fs gl vs f ++ [v]) ≤ stopV fs gl vs f v := x2
        omega
      · refine ⟨?_, e⟩
        rcases x3 with e2 | e2
        · exact e2
        · have := cross _ e2 _ e
          have : minN (highL fs gl vs f ++ [v]) ≤ stopV fs gl vs f v := x2
          unfold stopV at *
          omega
    obtain ⟨hs1, hs2⟩ := hs
    obtain ⟨a, g, e1, e2⟩ := high_of hs2
    obtain ⟨m, g2, h1, h2⟩ := (gi.snd _ _ _ e1).first
    refine ⟨(f, m, g2), h1, rfl, ?_⟩
    have k1 := hi _ h1 rfl
    rw [hs1] at k1 ⊢
    rcases h2 with ⟨rfl, rfl⟩ | ⟨k, p, rfl⟩
    · exact e2.symm
    · have := hm.path p
      simp only at k1 ⊢
      omega
/-- one place set -/
theorem giv_set {w : Int} {n : Str} (nd : fs.Nodup) (hl : vs.length = fs.length) (hf : f ∈ fs) (hn : n ∈ fs) : giv fs (vs.set (plI fs f) w) n = if n = f then w else giv fs vs n := by
  have e1 := giv_at (vs := vs.set (plI fs f) w) (n := n) (by rw [List.length_set]; exact hl) hn
  have e2 := giv_at hl hn
  by_cases c : n = f
  · subst c
    rw [if_pos rfl]
    rw [List.getElem?_set_self (by rw [hl]; exact (pl_get hn).1)] at e1
    exact (Option.some.inj e1).symm
  · rw [if_neg c]
    have hne : plI fs f ≠ plI fs n := fun z => by
      have h1 := (pl_get hf).2
      have h2 := (pl_get hn).2
      rw [z, h2] at h1
      exact c (Option.some.inj h1)
    rw [List.getElem?_set_ne hne, e2] at e1
    exact (Option.some.inj e1).symm
end
theorem map_giv {fs : List Str} {vs : List Int} (nd : fs.Nodup) (hl : vs.length = fs.length) : fs.map (giv fs vs) = vs := by
  refine List.ext_getElem (by simp [hl]) fun i h1 h2 => ?_
  rw [List.getElem_map]
  exact giv_ix nd hl (by simpa using h1)
theorem meet_of {fs : List Str} {ls : List Lim} {gl : GL} {vs : List Int} (gi : GInv fs ls gl) (hm : Meets ls (giv fs vs)) : meetB fs gl vs = true := by
  unfold meetB
  rw [List.all_eq_true]
  intro p hp
  have := hm.path (gi.snd p.1.1 p.1.2 p.2 (valG_of_mem gi.ok.nd hp))
  simpa using this
/-! ### helpers of the laws about settings -/
theorem dvK_upd {ks : List Str} {v : Str → Int} {y : Str} {x : Int} (h : y ∈ ks) : putG (dvK ks v) (.inr y) (.int x) = dvK ks fun n => if n = y then x else v n := by
  unfold dvK strK
  rw [putG_inj Sum.inr (fun _ _ e => by cases e; rfl) D.int (nv ks v) y x]
  congr 1
  unfold putG nv
  rw [if_pos (putG_any.mpr (by rw [List.map_map]; exact List.mem_map.mpr ⟨y, h, rfl⟩)), List.map_map]
  apply List.map_congr_left
  intro n _
  simp only [Function.comp]
  by_cases e : n = y
  · simp [e]
  · simp [e]
def sp_near : FS := fun ss Q _ => ∃ (fs : List Str) (ls : List Lim) (line : List Str) (u : Str → Int), ss = [.own .draw, .val (.dK (houseK fs ls line)), .val (.dK (dvK line u))] ∧ (HOk fs ls line ∧ 1 ≤ fs.length ∧ fs.length ≤ 7 ∧ ls.length ≤ 1000) ∧ ∀ w, Meets ls w → Q (.own (.dK (dvK line w))) ss
def sp_meets12 : FS := fun ss Q _ => ∃ (fs : List Str) (ls : List Lim) (line ks : List Str) (u : Str → Int), ss = [.val (.dK (houseK fs ls line)), .val (.dK (dvK ks u))] ∧ ((∀ l ∈ ls, l.1 ∈ ks ∧ l.2.1 ∈ ks) ∧ Meets ls u) ∧ Q (.val (.bl true)) ss
def sp_nearest : FS := fun ss Q _ => ∃ (fs : List Str) (ls : List Lim) (line ks : List Str) (u : Str → Int) (f : Str) (v : Int), ss = [.val (.dK (houseK fs ls line)), .val (.dK (dvK ks u)), .val (.str f), .val (.int v)] ∧ ((∀ l ∈ ls, l.1 ∈ ks ∧ l.2.1 ∈ ks) ∧ f ∈ ks ∧ (v < u f → ∃ l ∈ ls, l.2.1 = f ∧ u l.1 + l.2.2 = u l.2.1) ∧ (u f < v → ∃ l ∈ ls, l.1 = f ∧ u l.1 + l.2.2 = u l.2.1)) ∧ Q (.val (.bl true)) ss
section
variable {Γ : Nat → FS} {ss : List Slot} {Q : Res → List Slot → Prop} {E : Xc → List Slot → Prop}
theorem ok_near (h301 : Γ 301 = sp_take) (h302 : Γ 302 = sp_pick) (h309 : Γ 309 = sp_up) (h : sp_near ss Q E) : runD Γ 6 ir_law_near ss Q E := by
  obtain ⟨fs, ls, line, u, rfl, ⟨ho, hf1, hf7, hls⟩, q⟩ := h
  have hb : big = 16777216 := rfl
  have hpl := ho.pm.length_eq
  refine run_of _ rfl rfl (by simp) fun K hr hn he => ?_
  unfold ir_law_near
  infer_instance
  refine cons_run (asgN_run ?_)
  infer_instance
  refine cons_run (?_ : wpS Γ (.for _ _ _) _ _)
  rw [wpS]
  infer_instance
  rw [h301]
  refine ⟨_, rfl, ⟨by decide, small_lim (by decide)⟩, fun r r0 r1 => ?_⟩
  infer_instance
  refine ⟨⟨by omega, by omega⟩, (fun _ z => nomatch z), ?_⟩
  unfold rngG
  refine forL_map (g := none) (fun k : Nat => .int (0 + (k : Nat))) (List.range _) (fun p ρ => ∃ w s4 s5, ρ = [.own .draw, .val (.dK (houseK fs ls line)), .val (.dK (dvK line u)), .own (.dK (dvK line w)), s4, s5]) (fun _ _ _ => trivial) ⟨u, _, _, rfl⟩ (fun p y r ρ e ⟨w, s4, s5, eρ⟩ => ?_) fun ρ ⟨w, s4, s5, eρ⟩ => ?_
  · subst eρ
    refine ⟨_, rfl, fun K1 k1 k2 k3 k4 k5 => cons_run (asgN_run ?_)⟩
    exists house_fields
    rw [h302]
    refine ⟨_, rfl, ⟨?_, by rw [strs_len]; omega⟩, fun d hd => ?_⟩
    · intro z
      have := congrArg List.length z
      rw [strs_len, List.length_nil] at this
      omega
    obtain ⟨n, hn', rfl⟩ := List.mem_map.mp hd
    have hnl : n ∈ line := ho.pm.mem_iff.mpr hn'
    infer_instance
    refine cons_run (sti_run ?_)
    infer_instance
    rw [valG_dvK hnl]
    infer_instance
    rw [h301]
    refine ⟨_, rfl, ⟨by decide, small_lim (by decide)⟩, fun b b0 b1 => ?_⟩
    infer_instance
    rw [dvK_upd hnl, dvK_len]
    refine ⟨by omega, ?_⟩
    exact nil_run (Γ := Γ) (k5 _ ⟨_, _, _, rfl⟩)
  · subst eρ
    refine cons_run (retN_run ?_)
    infer_instance
    rw [h309]
    refine ⟨fs, ls, line, line, w, rfl, ⟨ho, fun n hn => hn, by omega, by omega⟩, fun w2 hw2 => ?_⟩
    infer_instance
    exact hr _ _ _ rfl (q w2 hw2.mt)
theorem ok_meets12 (h : sp_meets12 ss Q E) : runD Γ 5 ir_law_meets_k12 ss Q E := by
  obtain ⟨fs, ls, line, ks, u, rfl, ⟨hk, hm⟩, q⟩ := h
  refine run_of _ rfl rfl (by simp) fun K hr hn he => ?_
  unfold ir_law_meets_k12
  infer_instance
  refine cons_run (retN_run ?_)
  infer_instance
  refine lcp_run (g := none) limD ls (fun l => false) (fun l => .str l.1) _ (fun Q' h => ?_) rfl rfl (noOwn_lit rfl) (fun _ z => nomatch z) (by simp [Tg.slots, Tg.slots.slotsT]) trivial (fun y hy K h => ?_) ?_
  · exists house_limits
    exact h
  · obtain ⟨m1, m2⟩ := hk y hy
    unfold limD
    infer_instance
    rw [valG_dvK m1]
    infer_instance
    rw [valG_dvK m2]
    infer_instance
    have := hm y hy
    rw [if_neg (by omega)]
    exact h
  · rw [List.filter_eq_nil_iff.mpr (by simp)]
    infer_instance
    exact ⟨by decide, hr _ _ _ rfl q⟩
theorem str_nil {l : List Str} : D.eqvs (strL l) [] = decide (l = []) := by
  cases l with
  | nil => rfl
  | cons x l => rfl
theorem ok_nearest (h : sp_nearest ss Q E) : runD Γ 9 ir_law_is_nearest ss Q E := by
  obtain ⟨fs, ls, line, ks, u, f, v, rfl, ⟨hk, hf, h1, h2⟩, q⟩ := h
  refine run_of _ rfl rfl (by simp) fun K hr hn he => ?_
  unfold ir_law_is_nearest
  infer_instance
  refine cons_run (asgN_run ?_)
  infer_instance
  refine lcp_run (g := none) limD ls (fun l => decide (l.2.1 = f) && decide (u l.1 + l.2.2 = u l.2.1)) (fun l => .str l.1) _ (fun Q' h => ?_) rfl rfl (noOwn_lit rfl) (fun _ z => nomatch z) (by simp [Tg.slots, Tg.slots.slotsT]) trivial (fun y hy K h => ?_) ?_
  · exists house_limits
    exact h
  · obtain ⟨m1, m2⟩ := hk y hy
    unfold limD
    exists beq_iff_eq
    by_cases c : y.2.1 = f
    · rw [if_pos c]
      rw [valG_dvK m1]
      infer_instance
      rw [valG_dvK m2]
      exists beq_iff_eq
      simp only [c, decide_true, Bool.true_and, decide_eq_true_eq] at h ⊢
      exact k_ite h
    · rw [if_neg c]
      simp only [c, decide_false, Bool.false_and, Bool.false_eq_true, if_false] at h
      exact h
  have e1 : ((ls.filter fun l => decide (l.2.1 = f) && decide (u l.1 + l.2.2 = u l.2.1)).map fun l => D.str l.1) = strL ((ls.filter fun l => decide (l.2.1 = f) && decide (u l.1 + l.2.2 = u l.2.1)).map (·.1)) := by unfold strL; rw [List.map_map]; rfl
  rw [e1]
  infer_instance
  refine cons_run (asgN_run ?_)
  infer_instance
  refine lcp_run (g := none) limD ls (fun l => decide (l.1 = f) && decide (u l.1 + l.2.2 = u l.2.1)) (fun l => .str l.2.1) _ (fun Q' h => ?_) rfl rfl (noOwn_lit rfl) (fun _ z => nomatch z) (by simp [Tg.slots, Tg.slots.slotsT]) trivial (fun y hy K h => ?_) ?_
  · exists house_limits
    exact h
  · obtain ⟨m1, m2⟩ := hk y hy
    unfold limD
    exists beq_iff_eq
    by_cases c : y.1 = f
    · rw [if_pos c]
      rw [valG_dvK m1]
      infer_instance
      rw [valG_dvK m2]
      exists beq_iff_eq
      simp only [c, decide_true, Bool.true_and, decide_eq_true_eq] at h ⊢
      exact k_ite h
    · rw [if_neg c]
      simp only [c, decide_false, Bool.false_and, Bool.false_eq_true, if_false] at h
      exact h
  have e2 : ((ls.filter fun l => decide (l.1 = f) && decide (u l.1 + l.2.2 = u l.2.1)).map fun l => D.str l.2.1) = strL ((ls.filter fun l => decide (l.1 = f) && decide (u l.1 + l.2.2 = u l.2.1)).map (·.2.1)) := by unfold strL; rw [List.map_map]; rfl
  rw [e2]
  infer_instance
  refine cons_run (if_run ?_)
  infer_instance
  rw [valG_dvK hf]
  infer_instance
  by_cases c1 : v < u f
  · rw [if_pos c1]
    refine cons_run (retN_run ?_)
    infer_instance
    refine ⟨⟨strs_plain _, rfl, by rw [strs_deps]; decide⟩, hr _ _ _ rfl ?_⟩
    obtain ⟨l, hl, e3, e4⟩ := h1 c1
    have : D.eqvs (strL ((ls.filter fun l => decide (l.2.1 = f) && decide (u l.1 + l.2.2 = u l.2.1)).map (·.1))) [] = false := by
      rw [str_nil, decide_eq_false]
      intro z
      have hm : l ∈ ls.filter fun l => decide (l.2.1 = f) && decide (u l.1 + l.2.2 = u l.2.1) := List.mem_filter.mpr ⟨hl, by simp [e3]; rw [← e3]; exact e4⟩
      rw [List.map_eq_nil_iff.mp z] at hm
      exact nomatch hm
    rw [this]
    exact q
  · rw [if_neg c1]
    refine nil_run (cons_run (if_run ?_))
    infer_instance
    rw [valG_dvK hf]
    infer_instance
    by_cases c2 : u f < v
    · rw [if_pos c2]
      refine cons_run (retN_run ?_)
      infer_instance
      refine ⟨⟨strs_plain _, rfl, by rw [strs_deps]; decide⟩, hr _ _ _ rfl ?_⟩
      obtain ⟨l, hl, e3, e4⟩ := h2 c2
      have : D.eqvs (strL ((ls.filter fun l => decide (l.1 = f) && decide (u l.1 + l.2.2 = u l.2.1)).map (·.2.1))) [] = false := by
        rw [str_nil, decide_eq_false]
        intro z
        have hm : l ∈ ls.filter fun l => decide (l.1 = f) && decide (u l.1 + l.2.2 = u l.2.1) := List.mem_filter.mpr ⟨hl, by simp [e3]; rw [← e3]; exact e4⟩
        rw [List.map_eq_nil_iff.mp z] at hm
        exact nomatch hm
      rw [this]
      exact q
    · rw [if_neg c2]
      refine nil_run (cons_run (retN_run ?_))
      infer_instance
      exact hr _ _ _ rfl q
theorem ok_named12 (h : sp_named ss Q E) : runD Γ 5 ir_law_named_k12 ss Q E := by
  obtain ⟨fs, ls, line, vs, rfl, ⟨nd, hf, hl⟩, q⟩ := h
  have hb : big = 16777216 := rfl
  refine run_of _ rfl rfl (by simp) fun K hr hn he => ?_
  unfold ir_law_named_k12
  infer_instance
  refine cons_run (if_run ?_)
  exists house_fields, strs_len, ints_len
  rw [hl]
  exists beq_self_eq_true
  refine nil_run (cons_run (if_run ?_))
  infer_instance
  refine lcp_run (g := none) D.int vs (fun _ => false) D.int _ (fun Q' h => ?_) rfl rfl (noOwn_lit rfl) (fun _ z => nomatch z) (by simp [Tg.slots, Tg.slots.slotsT]) trivial (fun y hy K h => ?_) ?_
  · infer_instance; exact h
  · infer_instance
    exact h
  rw [List.filter_eq_nil_iff.mpr (by simp)]
  infer_instance
  refine ⟨by decide, ?_⟩
  rw [if_neg (by decide)]
  refine nil_run (cons_run (asgN_run ?_))
  infer_instance
  refine cons_run (forM_run (g := none) (fun k : Nat => .int (0 + (k : Nat))) (List.range fs.length) (fun p ρ => ∃ s3, ρ = [.val (.dK (houseK fs ls line)), .val (.tup (intL vs)), .own (.dK (dvK (fs.take p.length) (giv fs vs))), s3, .non]) (fun Q' h => ?_) (fun _ z => nomatch z) ⟨.non, rfl⟩ (fun _ _ _ => trivial) (fun p y r ρ e ⟨s3, eρ⟩ => ?_) fun ρ ⟨s3, eρ⟩ => ?_)
  · exists ints_len
    rw [hl]
    exact ⟨by omega, h⟩
  · subst eρ
    obtain ⟨rfl, hp⟩ := range_at e
    refine ⟨_, rfl, fun K1 k1 k2 k3 k4 k5 => cons_run (sti_run ?_)⟩
    infer_instance
    rw [ints_atN (by omega)]
    exists house_fields
    rw [strs_atN hp]
    infer_instance
    have hno : fs[p.length] ∉ fs.take p.length := fun hm => by
      obtain ⟨t, ht, e1⟩ := List.getElem_of_mem hm
      rw [List.length_take] at ht
      have h1 : fs[t]? = some fs[p.length] := by
        rw [List.getElem_take] at e1
        rw [← e1]; simp
      have := nodup_ix nd h1 (List.getElem?_eq_getElem hp)
      omega
    rw [dvK_put hno, dvK_len, List.length_take]
    have : dvK (fs.take p.length ++ [fs[p.length]]) (fun n => if n = fs[p.length] then vs[p.length] else giv fs vs n) = dvK (fs.take (p ++ [p.length]).length) (giv fs vs) := by
      rw [show (p ++ [p.length]).length = p.length + 1 by simp, List.take_succ_eq_append_getElem hp]
      refine dvK_congr fun n _ => ?_
      split
      · rename_i e2; rw [e2, giv_ix nd hl hp]
      · rfl
    rw [this]
    exact ⟨by omega, nil_run (Γ := Γ) (k5 _ ⟨_, rfl⟩)⟩
  · subst eρ
    refine cons_run (retN_run ?_)
    infer_instance
    refine hr _ _ _ rfl ?_
    rw [List.length_range, List.take_length]
    exact q
end
/-! ### facts of a setting that pushes, and of rows -/
def pv (gl : GL) (u : Str → Int) (f : Str) (v : Int) (n : Str) : Int :=
  if n = f then v else match valG gl (f, n), valG gl (n, f) with
    | some g, _ => imx (u n) (v + g)
    | none, some g => imn (u n) (v - g)
    | none, none => u n
theorem imx_spec (a b : Int) : a ≤ imx a b ∧ b ≤ imx a b ∧ (imx a b = a ∨ imx a b = b) := by unfold imx; split <;> omega
theorem imn_spec (a b : Int) : imn a b ≤ a ∧ imn a b ≤ b ∧ (imn a b = a ∨ imn a b = b) := by unfold imn; split <;> omega
section
variable {fs : List Str} {ls : List Lim} {gl : GL} {vs ws : List Int} {f : Str} {v : Int}
theorem getD_giv {n : Str} (hl : vs.length = fs.length) (hn : n ∈ fs) : vs.getD (plI fs n) 0 = giv fs vs n := by
  rw [List.getD_eq_getElem?_getD, giv_at hl hn]; rfl
theorem fold_up (nd : fs.Nodup) : ∀ (l : List (Str × Int)) (w : List Int), (l.map (·.1)).Nodup → (∀ p ∈ l, p.1 ∈ fs) → w.length = fs.length → ∀ n ∈ fs, giv fs (l.foldl (pushUp fs v) w) n = match valG l n with | some g => imx (giv fs w n) (v + g) | none => giv fs w n
  | [], w, _, _, _, n, _ => rfl
  | p :: l, w, hk, hin, hl, n, hn => by
    have hp := hin p (by simp)
    rw [List.foldl_cons, fold_up nd l _ (List.nodup_cons.mp hk).2 (fun q hq => hin q (by simp [hq])) (by unfold pushUp; rw [List.length_set]; exact hl) n hn]
    have e : giv fs (pushUp fs v w p) n = if n = p.1 then imx (giv fs w n) (v + p.2) else giv fs w n := by
      unfold pushUp
      rw [getD_giv hl hp, giv_set nd hl hp hn]
      split
      · rename_i c; rw [c]
      · rfl
    rw [valG_cons, e]
    by_cases c : p.1 = n
    · have : valG l n = none := by
        rw [← c]
        cases q : valG l p.1 with
        | none => rfl
        | some g => exact absurd (List.mem_map.mpr ⟨_, valG_some_mem q, rfl⟩) (List.nodup_cons.mp hk).1
      rw [this, if_pos c, if_pos c.symm]
    · have c2 : ¬ n = p.1 := fun z => c z.symm
      rw [if_neg c, if_neg c2]
theorem fold_dn (nd : fs.Nodup) : ∀ (l : List (Str × Int)) (w : List Int), (l.map (·.1)).Nodup → (∀ p ∈ l, p.1 ∈ fs) → w.length = fs.length → ∀ n ∈ fs, giv fs (l.foldl (pushDn fs v) w) n = match valG l n with | some g => imn (giv fs w n) (v - g) | none => giv fs w n
  | [], w, _, _, _, n, _ => rfl
  | p :: l, w, hk, hin, hl, n, hn => by
    have hp := hin p (by simp)
    rw [List.foldl_cons, fold_dn nd l _ (List.nodup_cons.mp hk).2 (fun q hq => hin q (by simp [hq])) (by unfold pushDn; rw [List.length_set]; exact hl) n hn]
    have e : giv fs (pushDn fs v w p) n = if n = p.1 then imn (giv fs w n) (v - p.2) else giv fs w n := by
      unfold pushDn
      rw [getD_giv hl hp, giv_set nd hl hp hn]
      split
      · rename_i c; rw [c]
      · rfl
    rw [valG_cons, e]
    by_cases c : p.1 = n
    · have : valG l n = none := by
        rw [← c]
        cases q : valG l p.1 with
        | none => rfl
        | some g => exact absurd (List.mem_map.mpr ⟨_, valG_some_mem q, rfl⟩) (List.nodup_cons.mp hk).1
      rw [this, if_pos c, if_pos c.symm]
    · have c2 : ¬ n = p.1 := fun z => c z.symm
      rw [if_neg c, if_neg c2]
theorem valG_und {n : Str} (hn : n ∈ fs) : valG (undL fs gl f) n = valG gl (n, f) := by
  unfold undL
  rw [valG_filterMap]
  cases e : valG gl (n, f) <;> simp [hn, e]
theorem valG_ovr {n : Str} (hn : n ∈ fs) : valG (ovrL fs gl f) n = valG gl (f, n) := by
  unfold ovrL
  rw [valG_filterMap]
  cases e : valG gl (f, n) <;> simp [hn, e]
theorem und_keys (nd : fs.Nodup) : ((undL fs gl f).map (·.1)).Nodup := by
  unfold undL
  rw [List.map_map]
  have : ∀ l : List Str, l.map ((fun x : Str × Int => x.1) ∘ fun y => (y, (valG gl (y, f)).getD 0)) = l := fun l => by
    conv => rhs; rw [← List.map_id l]
    rfl
  rw [this]
  exact nd.filter _
theorem ovr_keys (nd : fs.Nodup) : ((ovrL fs gl f).map (·.1)).Nodup := by
  unfold ovrL
  rw [List.map_map]
  have : ∀ l : List Str, l.map ((fun x : Str × Int => x.1) ∘ fun y => (y, (valG gl (f, y)).getD 0)) = l := fun l => by
    conv => rhs; rw [← List.map_id l]
    rfl
  rw [this]
  exact nd.filter _
theorem not_both (gi : GInv fs ls gl) {a b : Str} {x y : Int} (h1 : valG gl (a, b) = some x) (h2 : valG gl (b, a) = some y) : False := by
  obtain ⟨z, hz, _⟩ := gi.cls _ _ _ _ _ h1 h2
  rw [gi.irr a] at hz
  cases hz
/-- what a push does, field by field -/
theorem push_giv (gi : GInv fs ls gl) (nd : fs.Nodup) (hl : vs.length = fs.length) (hf : f ∈ fs) {n : Str} (hn : n ∈ fs) : giv fs (pushL fs gl vs f v) n = pv gl (giv fs vs) f v n := by
  unfold pushL pv
  have l1 : (vs.set (plI fs f) v).length = fs.length := by rw [List.length_set]; exact hl
  rw [fold_dn nd _ _ (und_keys nd) (fun p hp => (und_mem hp).1) (by rw [foldl_len (fun w a => by unfold pushUp; exact List.length_set)]; exact l1) n hn,
    fold_up nd _ _ (ovr_keys nd) (fun p hp => (ovr_mem hp).1) l1 n hn, valG_und hn, valG_ovr hn, giv_set nd hl hf hn]
  by_cases c : n = f
  · subst c
    simp [gi.irr n]
  · simp only [c, if_false]
    cases e1 : valG gl (f, n) with
    | some g =>
      cases e2 : valG gl (n, f) with
      | some h => exact (not_both gi e1 e2).elim
      | none => rfl
    | none =>
      cases e2 : valG gl (n, f) with
      | some h => rfl
      | none => rfl
theorem pv_self {u : Str → Int} : pv gl u f v f = v := by unfold pv; simp
theorem pv_up {u : Str → Int} {n : Str} {g : Int} (gi : GInv fs ls gl) (e : valG gl (f, n) = some g) : pv gl u f v n = imx (u n) (v + g) := by
  unfold pv
  rw [if_neg (fun z => by subst z; rw [gi.irr] at e; cases e), e]
theorem pv_dn {u : Str → Int} {n : Str} {g : Int} (gi : GInv fs ls gl) (e : valG gl (n, f) = some g) : pv gl u f v n = imn (u n) (v - g) := by
  have e2 : valG gl (f, n) = none := by
    cases q : valG gl (f, n) with
    | none => rfl
    | some h => exact (not_both gi q e).elim
  unfold pv
  rw [if_neg (fun z => by subst z; rw [gi.irr] at e; cases e), e, e2]
theorem pv_no {u : Str → Int} {n : Str} (c : n ≠ f) (e : valG gl (f, n) = none) (e2 : valG gl (n, f) = none) : pv gl u f v n = u n := by
  unfold pv
  rw [if_neg c, e, e2]
theorem pv_meets {u : Str → Int} (gi : GInv fs ls gl) (hm : Meets ls u) : Meets ls (pv gl u f v) := fun ⟨a, b, g⟩ hl => by
  obtain ⟨m, e, hg⟩ := gi.lim a b g hl
  have h0 := hm _ hl
  show pv gl u f v a + g ≤ pv gl u f v b
  simp only at h0
  by_cases ca : a = f
  · subst ca
    rw [pv_self, pv_up gi e]
    have := imx_spec (u b) (v + m)
    omega
  by_cases cb : b = f
  · subst cb
    rw [pv_self, pv_dn gi e]
    have := imn_spec (u a) (v - m)
    omega
  have ge : valG gl (b, f) = none → u b ≤ pv gl u f v b := fun e3 => by
    cases e4 : valG gl (f, b) with
    | none => rw [pv_no cb e4 e3]; omega
    | some z => rw [pv_up gi e4]; exact (imx_spec _ _).1
  cases e1 : valG gl (f, a) with
  | some x =>
    obtain ⟨z, hz, h1⟩ := gi.cls _ _ _ _ _ e1 e
    rw [pv_up gi e1, pv_up gi hz]
    have := imx_spec (u a) (v + x)
    have := imx_spec (u b) (v + z)
    omega
  | none =>
    cases e2 : valG gl (a, f) with
    | none =>
      rw [pv_no ca e1 e2]
      have : valG gl (b, f) = none := by
        cases q : valG gl (b, f) with
        | none => rfl
        | some h =>
          obtain ⟨z, hz, _⟩ := gi.cls _ _ _ _ _ e q
          rw [e2] at hz; cases hz
      have := ge this
      omega
    | some y =>
      rw [pv_dn gi e2]
      have i1 := imn_spec (u a) (v - y)
      cases e3 : valG gl (b, f) with
      | none =>
        have := ge e3
        omega
      | some y2 =>
        obtain ⟨z, hz, h1⟩ := gi.cls _ _ _ _ _ e e3
        rw [e2] at hz
        cases hz
        rw [pv_dn gi e3]
        have := imn_spec (u b) (v - y2)
        omega
theorem pv_mono {u w : Str → Int} {n : Str} (h : u n ≤ w n) : pv gl u f v n ≤ pv gl w f v n := by
  unfold pv
  split
  · omega
  · split
    · unfold imx; split <;> split <;> omega
    · unfold imn; split <;> split <;> omega
    · exact h
theorem stop_mono (h : ∀ n ∈ fs, giv fs vs n ≤ giv fs ws n) : stopV fs gl vs f v ≤ stopV fs gl ws f v := by
  obtain ⟨x1, x2, x3⟩ := maxN_app (l := lowsL fs gl vs f) (x := minN (highL fs gl vs f ++ [v]))
  obtain ⟨n1, n2, n3⟩ := minN_app (l := highL fs gl vs f) (x := v)
  obtain ⟨y1, y2, y3⟩ := maxN_app (l := lowsL fs gl ws f) (x := minN (highL fs gl ws f ++ [v]))
  obtain ⟨m1, m2, m3⟩ := minN_app (l := highL fs gl ws f) (x := v)
  have hM : minN (highL fs gl vs f ++ [v]) ≤ minN (highL fs gl ws f ++ [v]) := by
    rcases m3 with e | e
    · rw [e]; exact n2
    · obtain ⟨p, hp, e2⟩ := List.mem_map.mp e
      have h1 := n1 _ (List.mem_map.mpr ⟨p, hp, rfl⟩)
      have h2 := h p.1 (ovr_mem hp).1
      omega
  show maxN _ ≤ maxN _
  rcases x3 with e | e
  · rw [e]; omega
  · obtain ⟨p, hp, e2⟩ := List.mem_map.mp e
    have h1 := y1 _ (List.mem_map.mpr ⟨p, hp, rfl⟩)
    have h2 := h p.1 (und_mem hp).1
    omega
theorem stop_giv {n : Str} (nd : fs.Nodup) (hl : vs.length = fs.length) (hf : f ∈ fs) (hn : n ∈ fs) : giv fs (stopL fs gl vs f v) n = if n = f then stopV fs gl vs f v else giv fs vs n := giv_set nd hl hf hn
theorem stop_meets (gi : GInv fs ls gl) (hk : ∀ l ∈ ls, l.1 ∈ fs ∧ l.2.1 ∈ fs) (nd : fs.Nodup) (hl : vs.length = fs.length) (hf : f ∈ fs) (hm : Meets ls (giv fs vs)) : Meets ls (giv fs (stopL fs gl vs f v)) := fun l hl' => by
  obtain ⟨m1, m2⟩ := hk l hl'
  have so := stop_ok (f := f) (v := v) gi hm
  rw [stop_giv nd hl hf m1, stop_giv nd hl hf m2]
  have b1 := so.lo l hl'
  have b2 := so.hi l hl'
  have b3 := hm l hl'
  by_cases c1 : l.1 = f <;> by_cases c2 : l.2.1 = f
  · obtain ⟨m, e, _⟩ := gi.lim l.1 l.2.1 l.2.2 hl'
    rw [c1, c2, gi.irr] at e
    cases e
  · rw [if_pos c1, if_neg c2]
    have := b2 c1
    omega
  · rw [if_neg c1, if_pos c2]
    exact b1 c2
  · rw [if_neg c1, if_neg c2]
    exact b3
theorem push_meets (gi : GInv fs ls gl) (hk : ∀ l ∈ ls, l.1 ∈ fs ∧ l.2.1 ∈ fs) (nd : fs.Nodup) (hl : vs.length = fs.length) (hf : f ∈ fs) (hm : Meets ls (giv fs vs)) : Meets ls (giv fs (pushL fs gl vs f v)) := fun l hl' => by
  obtain ⟨m1, m2⟩ := hk l hl'
  rw [push_giv gi nd hl hf m1, push_giv gi nd hl hf m2]
  exact pv_meets gi hm l hl'
theorem set_meets {ps : List Str} {p : Str × Int} (gi : GInv fs ls gl) (hk : ∀ l ∈ ls, l.1 ∈ fs ∧ l.2.1 ∈ fs) (nd : fs.Nodup) (hl : vs.length = fs.length) (hf : p.1 ∈ fs) (hm : Meets ls (giv fs vs)) : Meets ls (giv fs (setL fs gl ps vs p)) := by
  unfold setL
  split
  · exact push_meets gi hk nd hl hf hm
  · exact stop_meets gi hk nd hl hf hm
theorem doneL_len {ps : List Str} {row : List (Str × Int)} : (doneL fs gl ps row vs).length = vs.length := by
  unfold doneL
  exact foldl_len (fun w a => set_len) row vs
theorem done_meets {ps : List Str} (gi : GInv fs ls gl) (hk : ∀ l ∈ ls, l.1 ∈ fs ∧ l.2.1 ∈ fs) (nd : fs.Nodup) : ∀ (row : List (Str × Int)) (vs : List Int), (∀ p ∈ row, p.1 ∈ fs) → vs.length = fs.length → Meets ls (giv fs vs) → Meets ls (giv fs (doneL fs gl ps row vs))
  | [], vs, _, _, hm => hm
  | p :: row, vs, hr, hl, hm => done_meets gi hk nd row _ (fun q hq => hr q (by simp [hq])) (by rw [set_len]; exact hl) (set_meets gi hk nd hl (hr p (by simp)) hm)
theorem set_mono {ps : List Str} {p : Str × Int} (gi : GInv fs ls gl) (nd : fs.Nodup) (hl : vs.length = fs.length) (hw : ws.length = fs.length) (hf : p.1 ∈ fs) (h : ∀ n ∈ fs, giv fs vs n ≤ giv fs ws n) : ∀ n ∈ fs, giv fs (setL fs gl ps vs p) n ≤ giv fs (setL fs gl ps ws p) n := fun n hn => by
  unfold setL
  split
  · rw [push_giv gi nd hl hf hn, push_giv gi nd hw hf hn]
    exact pv_mono (h n hn)
  · rw [stop_giv nd hl hf hn, stop_giv nd hw hf hn]
    split
    · exact stop_mono h
    · exact h n hn
theorem done_mono {ps : List Str} (gi : GInv fs ls gl) (nd : fs.Nodup) : ∀ (row : List (Str × Int)) (vs ws : List Int), (∀ p ∈ row, p.1 ∈ fs) → vs.length = fs.length → ws.length = fs.length → (∀ n ∈ fs, giv fs vs n ≤ giv fs ws n) → ∀ n ∈ fs, giv fs (doneL fs gl ps row vs) n ≤ giv fs (doneL fs gl ps row ws) n
  | [], vs, ws, _, _, _, h => h
  | p :: row, vs, ws, hr, hl, hw, h => done_mono gi nd row _ _ (fun q hq => hr q (by simp [hq])) (by rw [set_len]; exact hl) (by rw [set_len]; exact hw) (set_mono gi nd hl hw (hr p (by simp)) h)
/-- a pusher that is set last has its value -/
theorem done_last {ps : List Str} {row : List (Str × Int)} {p : Str × Int} (gi : GInv fs ls gl) (nd : fs.Nodup) (hl : vs.length = fs.length) (hf : p.1 ∈ fs) (hp : p.1 ∈ ps) : giv fs (doneL fs gl ps (row ++ [p]) vs) p.1 = p.2 := by
  unfold doneL
  rw [List.foldl_append]
  show giv fs (setL fs gl ps (doneL fs gl ps row vs) p) p.1 = p.2
  unfold setL
  rw [if_pos hp, push_giv gi nd (by rw [doneL_len]; exact hl) hf hf, pv_self]
/-- the values between those of the state and of any state with that value -/
theorem pv_between {u w : Str → Int} {n : Str} (gi : GInv fs ls gl) (hm : Meets ls u) (hw : Meets ls w) (e : w f = v) (hn : n ∈ fs) : (u n ≤ pv gl u f v n ∧ pv gl u f v n ≤ w n) ∨ (w n ≤ pv gl u f v n ∧ pv gl u f v n ≤ u n) := by
  by_cases c : n = f
  · subst c
    rw [pv_self, e]; omega
  cases e1 : valG gl (f, n) with
  | some x =>
    rw [pv_up gi e1]
    have := imx_spec (u n) (v + x)
    have := hw.path (gi.snd _ _ _ e1)
    omega
  | none =>
    cases e2 : valG gl (n, f) with
    | none => rw [pv_no c e1 e2]; omega
    | some y =>
      rw [pv_dn gi e2]
      have := imn_spec (u n) (v - y)
      have := hw.path (gi.snd _ _ _ e2)
      omega
end
/-! ### the laws' own setting, along the line -/
def upF (ls : List Lim) (w : Str → Int) (n : Str) : Int := maxL (w n) ((ls.filter fun l => decide (l.2.1 = n)).map fun l => w l.1 + l.2.2)
def dnF (ls : List Lim) (w : Str → Int) (n : Str) : Int := minL (w n) ((ls.filter fun l => decide (l.1 = n)).map fun l => w l.2.1 - l.2.2)
def updF (w : Str → Int) (n : Str) (x : Int) : Str → Int := fun m => if m = n then x else w m
section
variable {fs : List Str} {ls : List Lim} {line : List Str} {gl : GL} {f : Str} {v : Int} {u : Str → Int}
theorem bef_pre {P R : List Str} {x n : Str} (nd : line.Nodup) (e : line = P ++ n :: R) (h : Before line x n) : x ∈ P := by
  obtain ⟨i, j, hij, h1, h2⟩ := h
  have h3 : line[P.length]? = some n := by rw [e]; simp
  have := nodup_ix nd h2 h3
  subst this
  rw [e, List.getElem?_append_left hij] at h1
  exact List.mem_of_getElem? h1
theorem bef_suf {P R : List Str} {x n : Str} (nd : line.Nodup) (e : line = P ++ n :: R) (h : Before line n x) : x ∈ R := by
  obtain ⟨i, j, hij, h1, h2⟩ := h
  have h3 : line[P.length]? = some n := by rw [e]; simp
  have := nodup_ix nd h1 h3
  subst this
  have e4 : line = (P ++ [n]) ++ R := by rw [e]; simp
  rw [e4, List.getElem?_append_right (by simp; omega)] at h2
  exact List.mem_of_getElem? h2
theorem bef_of {P R : List Str} {x n : Str} (e : line = P ++ n :: R) (h : x ∈ P) : Before line x n := by
  obtain ⟨i, hi, e1⟩ := List.getElem_of_mem h
  refine ⟨i, P.length, hi, ?_, by rw [e]; simp⟩
  rw [e, List.getElem?_append_left hi, List.getElem?_eq_getElem hi, e1]
theorem suf_of {P R : List Str} {x n : Str} (e : line = P ++ n :: R) (h : x ∈ R) : Before line n x := by
  obtain ⟨i, hi, e1⟩ := List.getElem_of_mem h
  refine ⟨P.length, P.length + 1 + i, by omega, by rw [e]; simp, ?_⟩
  have e4 : line = (P ++ [n]) ++ R := by rw [e]; simp
  rw [e4, List.getElem?_append_right (by simp), ← e1]
  simp only [List.length_append, List.length_cons, List.length_nil]
  rw [show P.length + 1 + i - (P.length + (0 + 1)) = i by omega]
  exact List.getElem?_eq_getElem hi
theorem GInv.bef (gi : GInv fs ls gl) (ho : HOk fs ls line) {a b : Str} {m : Int} (e : valG gl (a, b) = some m) : Before line a b := (gi.snd _ _ _ e).before ho.ndl fun l hl => (ho.lm l hl).1
/-- the way up: those behind are as they shall be -/
theorem up_step (ho : HOk fs ls line) (gi : GInv fs ls gl) (hm : Meets ls u) {A P R : List Str} {n : Str} {w : Str → Int} (e : line = A ++ f :: (P ++ n :: R)) (hw : ∀ m ∈ line, w m = if m = f ∨ m ∈ P then pv gl u f v m else u m) : upF ls w n = pv gl u f v n := by
  have ndl := ho.ndl
  have e1 : line = (A ++ f :: P) ++ n :: R := by rw [e]; simp
  have e2 : line = A ++ f :: (P ++ n :: R) := e
  have hfn : Before line f n := bef_of e1 (by simp)
  have nmem : n ∈ line := by rw [e]; simp
  have nP : ¬ (n = f ∨ n ∈ P) := fun z => by
    have : n ∈ A ++ f :: P := by rcases z with rfl | z <;> simp [*]
    exact (bef_of e1 this).irr ndl
  have wn : w n = u n := by rw [hw n nmem, if_neg nP]
  have nod : valG gl (n, f) = none := by
    cases q : valG gl (n, f) with
    | none => rfl
    | some z => exact (((gi.bef ho q).trans ndl hfn).irr ndl).elim
  have hge : u n ≤ pv gl u f v n := by
    cases q : valG gl (f, n) with
    | none => rw [pv_no (fun z => nP (.inl z)) q nod]; omega
    | some z => rw [pv_up gi q]; exact (imx_spec _ _).1
  have hpm := pv_meets (f := f) (v := v) gi hm
  obtain ⟨x1, x2⟩ := maxL_geq ((ls.filter fun l => decide (l.2.1 = n)).map fun l => w l.1 + l.2.2) (w n)
  have le : upF ls w n ≤ pv gl u f v n := by
    unfold upF
    rcases maxL_mem ((ls.filter fun l => decide (l.2.1 = n)).map fun l => w l.1 + l.2.2) (w n) with h | h
    · rw [h, wn]; exact hge
    · obtain ⟨l, hl, h2⟩ := List.mem_map.mp h
      obtain ⟨h3, h4⟩ := List.mem_filter.mp hl
      have h4 : l.2.1 = n := by simpa using h4
      rw [← h2]
      have b := (ho.lm l h3).1
      rw [h4] at b
      rw [hw _ b.mem.1]
      split
      · have := hpm l h3
        rw [h4] at this
        exact this
      · have := hm l h3
        rw [h4] at this
        omega
  have ge : pv gl u f v n ≤ upF ls w n := by
    cases q : valG gl (f, n) with
    | none =>
      rw [pv_no (fun z => nP (.inl z)) q nod, ← wn]; exact x1
    | some g =>
      rw [pv_up gi q]
      have i := imx_spec (u n) (v + g)
      have t : v + g ≤ upF ls w n := by
        obtain ⟨m, g2, h1, h2⟩ := (gi.snd _ _ _ q).last
        have := x2 _ (List.mem_map.mpr ⟨(m, n, g2), List.mem_filter.mpr ⟨h1, by simp⟩, rfl⟩)
        have this : w m + g2 ≤ upF ls w n := this
        have b : Before line m n := (ho.lm _ h1).1
        rcases h2 with ⟨rfl, rfl⟩ | ⟨k, p, rfl⟩
        · rw [hw m b.mem.1, if_pos (.inl rfl), pv_self] at this
          exact this
        · obtain ⟨k2, e3, h3⟩ := gi.path p
          have bm := gi.bef ho e3
          have hmP : m ∈ P := by
            have h5 := bef_suf ndl e2 bm
            have h6 := bef_pre ndl e1 b
            rcases List.mem_append.mp h6 with h7 | h7
            · exact ((bm.trans ndl (bef_of e2 h7)).irr ndl).elim
            · rcases List.mem_cons.mp h7 with rfl | h7
              · exact (bm.irr ndl).elim
              · exact h7
          rw [hw m b.mem.1, if_pos (.inr hmP), pv_up gi e3] at this
          have := imx_spec (u m) (v + k2)
          omega
      have : u n ≤ upF ls w n := by rw [← wn]; exact x1
      omega
  omega
/-- the way down: all above are as they shall be -/
theorem dn_step (ho : HOk fs ls line) (gi : GInv fs ls gl) (hm : Meets ls u) {A S : List Str} {n : Str} {w : Str → Int} (e : line = A ++ n :: S) (hf : f ∈ S) (hn : w n = u n) (hw : ∀ m ∈ S, w m = pv gl u f v m) : dnF ls w n = pv gl u f v n := by
  have ndl := ho.ndl
  have hfn : Before line n f := suf_of e hf
  have nf : n ≠ f := fun z => by subst z; exact hfn.irr ndl
  have nou : valG gl (f, n) = none := by
    cases q : valG gl (f, n) with
    | none => rfl
    | some z => exact (((gi.bef ho q).trans ndl hfn).irr ndl).elim
  have hle : pv gl u f v n ≤ u n := by
    cases q : valG gl (n, f) with
    | none => rw [pv_no nf nou q]; omega
    | some z => rw [pv_dn gi q]; exact (imn_spec _ _).1
  have hpm := pv_meets (f := f) (v := v) gi hm
  obtain ⟨x1, x2⟩ := minL_leq ((ls.filter fun l => decide (l.1 = n)).map fun l => w l.2.1 - l.2.2) (w n)
  have ge : pv gl u f v n ≤ dnF ls w n := by
    unfold dnF
    rcases minL_mem ((ls.filter fun l => decide (l.1 = n)).map fun l => w l.2.1 - l.2.2) (w n) with h | h
    · rw [h, hn]; exact hle
    · obtain ⟨l, hl, h2⟩ := List.mem_map.mp h
      obtain ⟨h3, h4⟩ := List.mem_filter.mp hl
      have h4 : l.1 = n := by simpa using h4
      rw [← h2]
      have b := (ho.lm l h3).1
      rw [h4] at b
      rw [hw _ (bef_suf ndl e b)]
      have := hpm l h3
      rw [h4] at this
      omega
  have le : dnF ls w n ≤ pv gl u f v n := by
    cases q : valG gl (n, f) with
    | none =>
      rw [pv_no nf nou q, ← hn]; exact x1
    | some g =>
      rw [pv_dn gi q]
      have i := imn_spec (u n) (v - g)
      have t : dnF ls w n ≤ v - g := by
        obtain ⟨m, g2, h1, h2⟩ := (gi.snd _ _ _ q).first
        have := x2 _ (List.mem_map.mpr ⟨(n, m, g2), List.mem_filter.mpr ⟨h1, by simp⟩, rfl⟩)
        have this : dnF ls w n ≤ w m - g2 := this
        have b : Before line n m := (ho.lm _ h1).1
        have wm := hw m (bef_suf ndl e b)
        rcases h2 with ⟨rfl, rfl⟩ | ⟨k, p, rfl⟩
        · rw [wm, pv_self] at this
          omega
        · obtain ⟨k2, e3, h3⟩ := gi.path p
          rw [wm, pv_dn gi e3] at this
          have := imn_spec (u m) (v - k2)
          omega
      have : dnF ls w n ≤ u n := by rw [← hn]; exact x1
      omega
  omega
end
/-! ### rows drawn -/
def sp_row : FS := fun ss Q _ => ∃ (fs : List Str) (ls : List Lim) (line ks : List Str) (u : Str → Int) (a b : Nat), ss = [.own .draw, .val (.dK (houseK fs ls line)), .val (.dK (dvK ks u)), .val (.int a), .val (.int b)] ∧ ((1 ≤ fs.length ∧ fs.length ≤ 7) ∧ (∀ n ∈ fs, n ∈ ks) ∧ a ≤ b ∧ b ≤ 1000) ∧ ∀ row : List (Str × Int), (∀ p ∈ row, p.1 ∈ fs) → a ≤ row.length → row.length ≤ b → Q (.own (.lst (row.map prD))) ss
theorem idx_strs {n : Str} : ∀ {fs : List Str}, n ∈ fs → idxG (.str n) (strL fs) = some (plI fs n)
  | [], h => nomatch h
  | x :: fs, h => by
    show (if (x == n) = true then some 0 else (idxG (.str n) (strL fs)).map (· + 1)) = _
    unfold plI
    rw [List.findIdx?_cons]
    by_cases e : x = n
    · subst e; simp
    · have hn : n ∈ fs := by
        rcases List.mem_cons.mp h with h | h
        · exact absurd h.symm e
        · exact h
      rw [idx_strs hn]
      have h2 := pl_some hn
      simp [e, h2]
theorem prs_plain : ∀ row : List (Str × Int), D.plains (List.map prD row) = true
  | [] => rfl
  | p :: row => by
    show (true && D.plains (List.map prD row)) = true
    rw [prs_plain row]; rfl
theorem prs_dep : ∀ row : List (Str × Int), D.deps (List.map prD row) ≤ 1
  | [] => Nat.zero_le _
  | p :: row => by
    show max 1 (D.deps (List.map prD row)) ≤ 1
    have := prs_dep row
    omega
theorem prs_nil {row : List (Str × Int)} : D.eqvs (List.map prD row) [] = decide (row = []) := by cases row <;> rfl
theorem prs_last {row : List (Str × Int)} {p : Str × Int} : atG (List.map prD (row ++ [p])) (-1) = some (.tup [.str p.1, .int p.2]) := by
  unfold atG ixG
  rw [if_neg (by decide), if_pos (by simp; omega)]
  simp only [List.length_map, List.length_append, List.length_cons, List.length_nil]
  rw [show (-1 + ((row.length + (0 + 1) : Nat) : Int)).toNat = row.length by omega]
  simp [prD]
theorem at2_1 {a b : D} : atG [a, b] 1 = some b := rfl
theorem at2_0 {a b : D} : atG [a, b] 0 = some a := rfl
theorem ints_ask {vs : List Int} : askB (.tup (intL vs)) = true := by
  show (intL vs).all isiOk = true
  unfold intL
  rw [List.all_map, List.all_eq_true]
  intro x _; rfl
theorem st_of {fs : List Str} {ls : List Lim} {gl : GL} {vs : List Int} (gi : GInv fs ls gl) (hl : vs.length = fs.length) (hm : Meets ls (giv fs vs)) : stB fs gl (.tup (intL vs)) = true := by
  show (decide ((intL vs).length = fs.length) && match intsOf (intL vs) with | some vs => meetB fs gl vs | none => false) = true
  rw [ints_len, ints_L]
  simp [hl, meet_of gi hm]
section
variable {Γ : Nat → FS} {ss : List Slot} {Q : Res → List Slot → Prop} {E : Xc → List Slot → Prop}
theorem strs_ne {fs : List Str} (h : 1 ≤ fs.length) : strL fs ≠ [] := by
  intro z
  have := congrArg List.length z
  rw [strs_len, List.length_nil] at this
  omega
theorem ok_row (h301 : Γ 301 = sp_take) (h302 : Γ 302 = sp_pick) (h303 : Γ 303 = sp_value) (h : sp_row ss Q E) : runD Γ 9 ir_law_row ss Q E := by
  obtain ⟨fs, ls, line, ks, u, a, b, rfl, ⟨⟨hf1, hf7⟩, hk, hab, hb1⟩, q⟩ := h
  have hb : big = 16777216 := rfl
  refine run_of _ rfl rfl (by simp) fun K hr hn he => ?_
  unfold ir_law_row
  infer_instance
  refine cons_run (asgN_run ?_)
  infer_instance
  refine cons_run (?_ : wpS Γ (.for _ _ _) _ _)
  rw [wpS]
  infer_instance
  rw [h301]
  refine ⟨_, rfl, ⟨by omega, small_lim (by omega)⟩, fun r r0 r1 => ?_⟩
  infer_instance
  refine ⟨⟨by omega, by omega⟩, (fun _ z => nomatch z), ?_⟩
  unfold rngG
  refine forL_map (g := none) (fun k : Nat => .int (0 + (k : Nat))) (List.range _) (fun p ρ => ∃ row s6 s7 s8, ρ = [.own .draw, .val (.dK (houseK fs ls line)), .val (.dK (dvK ks u)), .val (.int a), .val (.int b), .own (.lst (List.map prD row)), s6, s7, s8] ∧ (∀ p ∈ row, p.1 ∈ fs) ∧ row.length = p.length) (fun _ _ _ => trivial) ⟨[], _, _, _, rfl, (fun p hp => nomatch hp), rfl⟩ (fun p y r2 ρ e ⟨row, s6, s7, s8, eρ, hrow, hrl⟩ => ?_) fun ρ ⟨row, s6, s7, s8, eρ, hrow, hrl⟩ => ?_
  · subst eρ
    have hpl : p.length < ((a : Int) + r).toNat := by
      have := congrArg List.length e
      simp at this
      omega
    refine ⟨_, rfl, fun K1 k1 k2 k3 k4 k5 => cons_run (asgN_run ?_)⟩
    exists house_fields
    rw [h302]
    refine ⟨_, rfl, ⟨strs_ne hf1, by rw [strs_len]; omega⟩, fun d hd => ?_⟩
    obtain ⟨n, hn', rfl⟩ := List.mem_map.mp hd
    infer_instance
    refine cons_run (asgN_run ?_)
    infer_instance
    rw [h303]
    refine ⟨rfl, fun i => ?_⟩
    infer_instance
    refine cons_run (if_run ?_)
    infer_instance
    rw [h301]
    refine ⟨_, rfl, ⟨by decide, small_lim (by decide)⟩, fun b1 _ _ => ?_⟩
    infer_instance
    have step : ∀ (R : Env → Prop) (rt : Res → Env → Prop) (bk ct : Env → Prop) (ex : Xc → Env → Prop), (∀ v : Int, R [.own .draw, .val (.dK (houseK fs ls line)), .val (.dK (dvK ks u)), .val (.int a), .val (.int b), .own (.lst (List.map prD row)), .val (.int (0 + (y : Int))), .val (.str n), .val (.int v)]) →
        if 0 < b1 then wpSs Γ [IS.asg (Tg.name 8) (IE.bin .Sub (IE.bin .Add (IE.sub (IE.var 2) (IE.call 302 [IE.var 0, IE.sub (IE.var 1) (IE.con (.str "fields"))] [])) (IE.call 301 [IE.var 0, IE.con (.int 61)] [])) (IE.con (.int 30))).frz] [.own .draw, .val (.dK (houseK fs ls line)), .val (.dK (dvK ks u)), .val (.int a), .val (.int b), .own (.lst (List.map prD row)), .val (.int (0 + (y : Int))), .val (.str n), .val (.int i)] ⟨R, rt, bk, ct, ex⟩
        else wpSs Γ [] [.own .draw, .val (.dK (houseK fs ls line)), .val (.dK (dvK ks u)), .val (.int a), .val (.int b), .own (.lst (List.map prD row)), .val (.int (0 + (y : Int))), .val (.str n), .val (.int i)] ⟨R, rt, bk, ct, ex⟩ := fun R rt bk ct ex hR => by
      split
      · refine cons_run (asgN_run ?_)
        exists house_fields
        rw [h302]
        refine ⟨_, rfl, ⟨strs_ne hf1, by rw [strs_len]; omega⟩, fun d hd => ?_⟩
        obtain ⟨n2, hn2, rfl⟩ := List.mem_map.mp hd
        infer_instance
        rw [valG_dvK (hk n2 hn2)]
        infer_instance
        rw [h301]
        refine ⟨_, rfl, ⟨by decide, small_lim (by decide)⟩, fun b2 _ _ => ?_⟩
        infer_instance
        exact nil_run (Γ := Γ) (hR _)
      · exact nil_run (Γ := Γ) (hR _)
    refine step _ _ _ _ _ fun v => ?_
    clear step
    refine cons_run (exp_run ?_)
    infer_instance
    refine ⟨by simp only [List.length_map]; omega, ?_⟩
    rw [show List.map prD row ++ [D.tup [.str n, .int v]] = List.map prD (row ++ [(n, v)]) by rw [List.map_append]; rfl]
    refine nil_run (Γ := Γ) (k5 _ ⟨row ++ [(n, v)], _, _, _, rfl, fun p hp => ?_, by simp [hrl]⟩)
    rcases List.mem_append.mp hp with hp | hp
    · exact hrow p hp
    · simp at hp; subst hp; exact hn'
  · subst eρ
    rw [List.length_range] at hrl
    refine cons_run (retN_run ?_)
    infer_instance
    exact hr _ _ _ rfl (q row hrow (by omega) (by omega))
end
/-! ### k15: greater stays greater -/
section
variable {Γ : Nat → FS} {ss : List Slot} {Q : Res → List Slot → Prop} {E : Xc → List Slot → Prop}
theorem ok_law15 (h16 : Γ 16 = sp_done) (h100 : Γ 100 = sp_init) (h103 : Γ 103 = sp_contains) (h300 : Γ 300 = sp_begun) (h301 : Γ 301 = sp_take) (h302 : Γ 302 = sp_pick) (h303 : Γ 303 = sp_value) (h305 : Γ 305 = sp_order) (h309 : Γ 309 = sp_up) (h310 : Γ 310 = sp_state) (h311 : Γ 311 = sp_tuple) (h322 : Γ 322 = sp_row) (h : sp_law ss Q E) : runD Γ 16 ir_law_k15 ss Q E := by
  obtain ⟨xs, rfl, hx, q⟩ := h
  have hb : big = 16777216 := rfl
  refine run_of _ rfl rfl (by simp) fun K hr hn he => ?_
  unfold ir_law_k15
  infer_instance
  refine cons_run (asgN_run ?_)
  infer_instance
  rw [h300]
  refine ⟨xs, rfl, hx, ?_⟩
  infer_instance
  refine cons_run (?_ : wpS Γ (.for _ _ _) _ _)
  rw [wpS]
  exists ints_len
  refine ⟨⟨by split <;> split <;> omega, by split <;> split <;> omega⟩, (fun _ z => nomatch z), ?_⟩
  unfold rngG
  refine forL_map (g := none) (fun k : Nat => .int (0 + (k : Nat))) (List.range _) (fun p ρ => ∃ s2 s3 s4 s5 s6 s7 s8 s9 s10 s11 s12 s13 s14, ρ = [.val (.lst (intL xs)), .own .draw, s2, s3, s4, s5, s6, s7, s8, s9, s10, s11, s12, s13, s14, .non]) (fun _ _ _ => trivial) ⟨_, _, _, _, _, _, _, _, _, _, _, _, _, rfl⟩ (fun p y r ρ e ⟨s2, s3, s4, s5, s6, s7, s8, s9, s10, s11, s12, s13, s14, eρ⟩ => ?_) fun ρ ⟨s2, s3, s4, s5, s6, s7, s8, s9, s10, s11, s12, s13, s14, eρ⟩ => ?_
  · subst eρ
    refine ⟨_, rfl, fun K1 k1 k2 k3 k4 k5 => cons_run (asgN_run ?_)⟩
    infer_instance
    rw [h302]
    refine ⟨_, rfl, ⟨by simp, by decide⟩, fun d hd => ?_⟩
    obtain ⟨m, rfl, hm⟩ : ∃ m : Nat, d = .int m ∧ m ≤ 40 := by
      simp only [List.mem_cons, List.not_mem_nil, or_false] at hd
      rcases hd with rfl | rfl | rfl
      · exact ⟨6, rfl, by decide⟩
      · exact ⟨12, rfl, by decide⟩
      · exact ⟨40, rfl, by decide⟩
    infer_instance
    rw [h305]
    refine ⟨1, 7, m, rfl, ⟨by decide, by decide, by omega⟩, fun fs ls line ho hf1 hf2 hls => ?_⟩
    infer_instance
    obtain ⟨gl, eg, gi⟩ := ho.gaps
    have nd := ho.nd
    have ok : OrdK fs gl := ⟨nd, by omega, gi.ok⟩
    have hpl := ho.pm.length_eq
    have hlf : ∀ n ∈ fs, n ∈ line := fun n hn => ho.pm.mem_iff.mpr hn
    have hkl : ∀ l ∈ ls, l.1 ∈ fs ∧ l.2.1 ∈ fs := fun l hl => ho.lmem hl
    have hnm : ∀ x ∈ fs, x.length ≤ big := fun x hx => by
      have := ho.nm
      unfold okNames isNameB at this
      simp at this
      have := (this.1 x hx).1.2
      omega
    refine cons_run (par_run ?_)
    exists house_fields
    rw [h310]
    refine ⟨fs, ls, line, rfl, ⟨ho, by omega, by omega⟩, fun u hu => ?_⟩
    infer_instance
    refine cons_run (asgN_run ?_)
    infer_instance
    refine cons_run (forM_run (g := none) D.str fs (fun p ρ => ∃ s5 w, ρ = [.val (.lst (intL xs)), .own .draw, .val (.int (0 + (y : Int))), .val (.dK (houseK fs ls line)), .own (.dK (dvK p w)), s5, s6, s7, s8, s9, s10, .val (.lst (strL fs)), .val (.dK (dvK line u)), s13, s14, .non] ∧ (∀ n ∈ p, u n ≤ w n)) (fun Q' h => ?_) (fun _ z => nomatch z) ⟨_, u, rfl, (fun n hn => nomatch hn)⟩ (fun _ _ _ => trivial) (fun p2 z r2 ρ2 e2 ⟨s5, w, eρ2, hw⟩ => ?_) fun ρ2 ⟨s5, w, eρ2, hw⟩ => ?_)
    · infer_instance
      exact h
    · subst eρ2
      have hz : z ∈ fs := by rw [e2]; simp
      have hp2 : p2.length ≤ 7 := by
        have := congrArg List.length e2
        simp at this
        omega
      have hzp : z ∉ p2 := fun hm => by
        have := nd
        rw [e2] at this
        exact (List.nodup_append.mp this).2.2 z hm z (by simp) rfl
      refine ⟨_, rfl, fun K2 l1 l2 l3 l4 l5 => cons_run (sti_run ?_)⟩
      infer_instance
      rw [valG_dvK (hlf z hz)]
      infer_instance
      rw [h301]
      refine ⟨_, rfl, ⟨by decide, small_lim (by decide)⟩, fun b1 h1 _ => ?_⟩
      infer_instance
      rw [h303]
      refine ⟨rfl, fun i => ?_⟩
      infer_instance
      rw [h302]
      refine ⟨_, rfl, ⟨by simp, by simp [hb]⟩, fun d hd => ?_⟩
      obtain ⟨c, rfl, hc⟩ : ∃ c : Int, d = .int c ∧ 0 ≤ c := by
        simp only [List.mem_cons, List.not_mem_nil, or_false] at hd
        rcases hd with rfl | rfl | rfl | rfl | rfl
        · exact ⟨_, rfl, by omega⟩
        · exact ⟨_, rfl, by omega⟩
        · exact ⟨_, rfl, by omega⟩
        · exact ⟨_, rfl, by omega⟩
        · exact ⟨_, rfl, by omega⟩
      infer_instance
      rw [dvK_put hzp, dvK_len]
      refine ⟨by omega, ?_⟩
      refine nil_run (Γ := Γ) (l5 _ ⟨_, _, rfl, fun n hn => ?_⟩)
      rcases List.mem_append.mp hn with hn | hn
      · rw [if_neg (fun e => hzp (by rw [← e]; exact hn))]; exact hw n hn
      · simp at hn
        rw [if_pos hn, hn]; omega
    · subst eρ2
      refine cons_run (asgN_run ?_)
      infer_instance
      rw [h309]
      refine ⟨fs, ls, line, fs, w, rfl, ⟨ho, fun n hn => ho.pm.mem_iff.mp hn, by omega, by omega⟩, fun g hg => ?_⟩
      infer_instance
      refine cons_run (par_run ?_)
      infer_instance
      rw [h302]
      refine ⟨_, rfl, ⟨by simp, by simp [hb]⟩, fun d hd => ?_⟩
      obtain ⟨t, rfl⟩ : ∃ t : Str → Int, d = .dK (dvK line t) := by
        simp only [List.mem_cons, List.not_mem_nil, or_false] at hd
        rcases hd with rfl | rfl <;> exact ⟨_, rfl⟩
      infer_instance
      rw [h322]
      refine ⟨fs, ls, line, line, t, 0, 10, rfl, ⟨⟨hf1, hf2⟩, hlf, by decide, by decide⟩, fun row hrow _ hrl => ?_⟩
      infer_instance
      refine cons_run (forM_run (g := none) D.str fs (fun p ρ => ∃ s5 ps, ρ = [.val (.lst (intL xs)), .own .draw, .val (.int (0 + (y : Int))), .val (.dK (houseK fs ls line)), .val (.dK (dvK fs w)), s5, .val (.dK (dvK line g)), s7, s8, s9, s10, .val (.lst (strL fs)), .val (.dK (dvK line u)), .val (.lst (List.map prD row)), .own (.lst (strL ps)), .non] ∧ (∀ x ∈ ps, x ∈ fs) ∧ ps.length ≤ p.length) (fun Q' h => ?_) (fun _ z => nomatch z) ⟨_, [], rfl, (fun x hx => nomatch hx), Nat.le_refl _⟩ (fun _ _ _ => trivial) (fun p2 z r2 ρ2 e2 ⟨s5, ps, eρ2, hps, hpl2⟩ => ?_) fun ρ2 ⟨s5, ps, eρ2, hps, hpl2⟩ => ?_)
      · infer_instance
        exact h
      · subst eρ2
        have hz : z ∈ fs := by rw [e2]; simp
        have hp2 : p2.length ≤ 7 := by
          have := congrArg List.length e2
          simp at this
          omega
        refine ⟨_, rfl, fun K2 l1 l2 l3 l4 l5 => cons_run (if_run ?_)⟩
        infer_instance
        rw [h301]
        refine ⟨_, rfl, ⟨by decide, small_lim (by decide)⟩, fun b2 _ _ => ?_⟩
        infer_instance
        split
        · refine cons_run (exp_run ?_)
          exists strs_len
          refine ⟨by omega, ?_⟩
          refine nil_run ?_
          rw [show strL ps ++ [D.str z] = strL (ps ++ [z]) by unfold strL; rw [List.map_append]; rfl]
          refine nil_run (Γ := Γ) (l5 _ ⟨_, ps ++ [z], rfl, fun x hx => ?_, by simp; omega⟩)
          rcases List.mem_append.mp hx with hx | hx
          · exact hps x hx
          · simp at hx; subst hx; exact hz
        · refine nil_run ?_
          exact nil_run (Γ := Γ) (l5 _ ⟨_, ps, rfl, hps, by simp; omega⟩)
      · subst eρ2
        have hlu : (fs.map u).length = fs.length := by simp
        have hlg : (fs.map g).length = fs.length := by simp
        have mt : ∀ t : Str → Int, Meets ls t → Meets ls (giv fs (fs.map t)) := fun t ht l hl => by
          obtain ⟨m1, m2⟩ := ho.lmem hl
          rw [giv_map nd m1, giv_map nd m2]
          exact ht l hl
        have d1 := done_meets (ps := ps) gi hkl nd row _ hrow hlu (mt u hu)
        have d2 := done_meets (ps := ps) gi hkl nd row _ hrow hlg (mt g hg.mt)
        have l1 : (doneL fs gl ps row (fs.map u)).length = fs.length := by rw [doneL_len]; exact hlu
        have l2 : (doneL fs gl ps row (fs.map g)).length = fs.length := by rw [doneL_len]; exact hlg
        have mono := done_mono (ps := ps) gi nd row _ _ hrow hlu hlg fun n hn => by
          rw [giv_map nd hn, giv_map nd hn]
          have a1 := hg.ge n (hlf n hn)
          have a2 := hw n hn
          omega
        refine cons_run (asgN_run ?_)
        exists house_limits
        rw [h100]
        refine ⟨.l, .l, fs, ls, rfl, ⟨hnm, by omega, ho.nm⟩, ?_⟩
        rw [eg]
        infer_instance
        refine cons_run (asgN_run ?_)
        infer_instance
        rw [h311]
        refine ⟨fs, ls, line, line, u, rfl, hlf, ?_⟩
        infer_instance
        rw [h16]
        refine ⟨fs, gl, .l, .l, row, fs.map u, ps, rfl, ⟨ok, hlu, meet_of gi (mt u hu), hps, hrow⟩, ?_⟩
        infer_instance
        refine cons_run (asgN_run ?_)
        infer_instance
        rw [h311]
        refine ⟨fs, ls, line, line, g, rfl, hlf, ?_⟩
        infer_instance
        rw [h16]
        refine ⟨fs, gl, .l, .l, row, fs.map g, ps, rfl, ⟨ok, hlg, meet_of gi (mt g hg.mt), hps, hrow⟩, ?_⟩
        infer_instance
        refine cons_run (forM_run (g := none) (fun vs : List Int => .tup (intL vs)) [doneL fs gl ps row (fs.map u), doneL fs gl ps row (fs.map g)] (fun p ρ => ∃ s10, ρ = [.val (.lst (intL xs)), .own .draw, .val (.int (0 + (y : Int))), .val (.dK (houseK fs ls line)), .val (.dK (dvK fs w)), s5, .val (.dK (dvK line g)), .val (.obj 0 (ordF fs gl)), .val (.tup (intL (doneL fs gl ps row (fs.map u)))), .val (.tup (intL (doneL fs gl ps row (fs.map g)))), s10, .val (.lst (strL fs)), .val (.dK (dvK line u)), .val (.lst (List.map prD row)), .val (.lst (strL ps)), .non]) (fun Q' h => ?_) (fun _ z => nomatch z) ⟨_, rfl⟩ (fun _ _ _ => trivial) (fun p3 z r3 ρ3 e3 ⟨s10, eρ3⟩ => ?_) fun ρ3 ⟨s10, eρ3⟩ => ?_)
        · infer_instance
          exact h
        · subst eρ3
          have hz : z.length = fs.length ∧ Meets ls (giv fs z) := by
            have : z ∈ [doneL fs gl ps row (fs.map u), doneL fs gl ps row (fs.map g)] := by rw [e3]; simp
            simp only [List.mem_cons, List.not_mem_nil, or_false] at this
            rcases this with rfl | rfl
            · exact ⟨l1, d1⟩
            · exact ⟨l2, d2⟩
          refine ⟨_, rfl, fun K2 m1 m2 m3 m4 m5 => cons_run (if_run ?_)⟩
          exists ints_len, strs_len
          rw [hz.1]
          exists beq_self_eq_true
          rw [h103]
          refine ⟨fs, gl, _, rfl, ⟨ok, ?_⟩, ?_⟩
          · exact ints_ask
          · rw [st_of gi hz.1 hz.2]
            infer_instance
            refine nil_run ?_
            exact nil_run (Γ := Γ) (m5 _ ⟨_, rfl⟩)
        · subst eρ3
          refine cons_run (if_run ?_)
          infer_instance
          refine lcp_run (g := none) (fun k : Nat => .int (0 + (k : Nat))) (List.range fs.length) (fun _ => false) (fun k : Nat => .int (0 + (k : Nat))) _ (fun Q' h => ?_) rfl rfl (noOwn_lit rfl) (fun _ z => nomatch z) (by simp [Tg.slots, Tg.slots.slotsT]) trivial (fun z hz K h => ?_) ?_
          · exists strs_len
            exact ⟨by omega, h⟩
          · have hz : z < fs.length := List.mem_range.mp hz
            infer_instance
            rw [ints_atN (by omega)]
            infer_instance
            rw [ints_atN (by omega)]
            infer_instance
            have := mono fs[z] (by simp)
            rw [giv_ix nd l1 hz, giv_ix nd l2 hz] at this
            rw [if_neg (by omega)]
            exact h
          rw [List.filter_eq_nil_iff.mpr (by simp)]
          infer_instance
          refine ⟨by decide, ?_⟩
          rw [if_neg (by decide)]
          refine nil_run (cons_run (if_run ?_))
          infer_instance
          refine ⟨⟨prs_plain _, rfl, by have := prs_dep row; omega⟩, ?_⟩
          rw [prs_nil]
          rcases List.eq_nil_or_concat row with c | ⟨r0, pl, c⟩
          · rw [if_neg (by simp [c])]
            refine nil_run ?_
            exact nil_run (Γ := Γ) (k5 _ ⟨_, _, _, _, _, _, _, _, _, _, _, _, _, rfl⟩)
          · have c : row = r0 ++ [pl] := by rw [c]; simp
            have hpf : pl.1 ∈ fs := hrow pl (by rw [c]; simp)
            rw [if_pos (by simp [c])]
            subst c
            rw [prs_last]
            infer_instance
            refine ⟨⟨rfl, strs_plain _, Nat.zero_le _, by rw [strs_deps]; decide⟩, ?_⟩
            rw [in_strs]
            by_cases c2 : pl.1 ∈ ps
            · rw [if_pos (by simpa using c2)]
              refine ⟨⟨rfl, strs_flat _⟩, ?_⟩
              rw [idx_strs hpf]
              infer_instance
              rw [int_at (giv_at l1 hpf), done_last gi nd hlu hpf c2]
              infer_instance
              rw [prs_last]
              infer_instance
              rw [at2_1]
              exists beq_self_eq_true
              refine nil_run ?_
              exact nil_run (Γ := Γ) (k5 _ ⟨_, _, _, _, _, _, _, _, _, _, _, _, _, rfl⟩)
            · rw [if_neg (by simpa using c2)]
              refine nil_run ?_
              exact nil_run (Γ := Γ) (k5 _ ⟨_, _, _, _, _, _, _, _, _, _, _, _, _, rfl⟩)
  · subst eρ
    refine cons_run (retN_run ?_)
    infer_instance
    exact hr _ _ _ rfl q
end
end Mi
namespace Mi
open PySem PySem.Spec PyProof.Rows L2
/-! ### the text -/
def top (i : Nat) : Stmt := PySem.Challenge.pw_fieldbounds_k15_whole_greater_stays_grea.main.body.getD i (.Pass ⟨0, 0, 0, 0⟩)
def sub (i j : Nat) : Stmt := match top i with
  | .ClassDef _ _ _ b _ _ _ _ _ _ _ => b.getD j (.Pass ⟨0, 0, 0, 0⟩)
  | _ => .Pass ⟨0, 0, 0, 0⟩
def Γt : Nat → FS := fun n => match n with
  | 4 => sp_is_integer
  | 103 => sp_contains
  | 8 => sp_need_state
  | 106 => sp_place
  | 10 => sp_bounds
  | 12 => sp_with_stop
  | 13 => sp_with_push
  | 14 => sp_after
  | 9 => sp_need_fields
  | 15 => sp_need_row
  | 16 => sp_done
  | 3 => sp_is_name
  | 5 => sp_widened
  | 6 => sp_closes
  | 7 => sp_gaps_of
  | 100 => sp_init
  | 300 => sp_begun
  | 301 => sp_take
  | 302 => sp_pick
  | 303 => sp_value
  | 304 => sp_names
  | 305 => sp_order
  | 309 => sp_up
  | 310 => sp_state
  | 311 => sp_tuple
  | 322 => sp_row
  | 308 => sp_law
  | _ => fun _ _ _ => False
def naT (c : Nat) : List Str :=
  if c = 0 then ["fields", "gaps", "under", "over"] else
  []
abbrev Tk (K : PySem.W.Frag) : Tx := ⟨K, fun c => if c = 0 then He.ga K "Order" else 0, naT, [0]⟩
def conL : List (Str × D) := [("MOST_LETTERS", .int 8), ("LETTERS", .str "abcdefghijklmnopqrstuvwxyz")]
def clsL : List (Str × Cls) := [("str", .str), ("int", .int), ("bool", .bool), ("tuple", .tuple), ("list", .list), ("Order", .own 0)]
def d4 : He.DefD := ⟨("is_integer", none), "is_integer", "is_integer", fnArgs (top 22), fnBd (top 22), fnSc (top 22), [], []⟩
def d103 : He.DefD := ⟨("Order", some "__contains__"), "__contains__", "Order.__contains__", fnArgs (sub 27 3), fnBd (sub 27 3), fnSc (sub 27 3), [], []⟩
def d8 : He.DefD := ⟨("need_state", none), "need_state", "need_state", fnArgs (top 9), fnBd (top 9), fnSc (top 9), [], []⟩
def d106 : He.DefD := ⟨("Order", some "place"), "place", "Order.place", fnArgs (sub 27 6), fnBd (sub 27 6), fnSc (sub 27 6), [], []⟩
def d10 : He.DefD := ⟨("bounds", none), "bounds", "bounds", fnArgs (top 11), fnBd (top 11), fnSc (top 11), [], []⟩
def d12 : He.DefD := ⟨("with_stop", none), "with_stop", "with_stop", fnArgs (top 13), fnBd (top 13), fnSc (top 13), [], []⟩
def d13 : He.DefD := ⟨("with_push", none), "with_push", "with_push", fnArgs (top 14), fnBd (top 14), fnSc (top 14), [], []⟩
def d14 : He.DefD := ⟨("after_setting", none), "after_setting", "after_setting", fnArgs (top 15), fnBd (top 15), fnSc (top 15), [], []⟩
def d9 : He.DefD := ⟨("need_fields", none), "need_fields", "need_fields", fnArgs (top 10), fnBd (top 10), fnSc (top 10), [], []⟩
def d15 : He.DefD := ⟨("need_row", none), "need_row", "need_row", fnArgs (top 16), fnBd (top 16), fnSc (top 16), [], []⟩
def d16 : He.DefD := ⟨("done", none), "done", "done", fnArgs (top 17), fnBd (top 17), fnSc (top 17), [], [("pushing", .adr (kwdAt ("done", none) "pushing"))]⟩
def d3 : He.DefD := ⟨("is_name", none), "is_name", "is_name", fnArgs (top 21), fnBd (top 21), fnSc (top 21), [], []⟩
def d5 : He.DefD := ⟨("widened", none), "widened", "widened", fnArgs (top 24), fnBd (top 24), fnSc (top 24), [], []⟩
def d6 : He.DefD := ⟨("closes_ring", none), "closes_ring", "closes_ring", fnArgs (top 25), fnBd (top 25), fnSc (top 25), [], []⟩
def d7 : He.DefD := ⟨("gaps_of", none), "gaps_of", "gaps_of", fnArgs (top 26), fnBd (top 26), fnSc (top 26), [], []⟩
def d100 : He.DefD := ⟨("Order", some "__init__"), "__init__", "Order.__init__", fnArgs (sub 27 0), fnBd (sub 27 0), fnSc (sub 27 0), [.adr (He.dflAt ("Order", some "__init__") 0)], []⟩
def d300 : He.DefD := ⟨("_law_begun", none), "_law_begun", "_law_begun", fnArgs (top 29), fnBd (top 29), fnSc (top 29), [], []⟩
def d301 : He.DefD := ⟨("_law_take", none), "_law_take", "_law_take", fnArgs (top 30), fnBd (top 30), fnSc (top 30), [], []⟩
def d302 : He.DefD := ⟨("_law_pick", none), "_law_pick", "_law_pick", fnArgs (top 31), fnBd (top 31), fnSc (top 31), [], []⟩
def d303 : He.DefD := ⟨("_law_value", none), "_law_value", "_law_value", fnArgs (top 32), fnBd (top 32), fnSc (top 32), [], []⟩
def d304 : He.DefD := ⟨("_law_names", none), "_law_names", "_law_names", fnArgs (top 33), fnBd (top 33), fnSc (top 33), [], []⟩
def d305 : He.DefD := ⟨("_law_order", none), "_law_order", "_law_order", fnArgs (top 34), fnBd (top 34), fnSc (top 34), [], []⟩
def d309 : He.DefD := ⟨("_law_up", none), "_law_up", "_law_up", fnArgs (top 35), fnBd (top 35), fnSc (top 35), [], []⟩
def d310 : He.DefD := ⟨("_law_state", none), "_law_state", "_law_state", fnArgs (top 36), fnBd (top 36), fnSc (top 36), [], []⟩
def d311 : He.DefD := ⟨("_law_tuple", none), "_law_tuple", "_law_tuple", fnArgs (top 37), fnBd (top 37), fnSc (top 37), [], []⟩
def d322 : He.DefD := ⟨("_law_row", none), "_law_row", "_law_row", fnArgs (top 38), fnBd (top 38), fnSc (top 38), [], []⟩
def d308 : He.DefD := ⟨("law", none), "law", "law", fnArgs (top 39), fnBd (top 39), fnSc (top 39), [], []⟩
def fn : List He.DefD := [d4, d103, d8, d106, d10, d12, d13, d14, d9, d15, d16, d3, d5, d6, d7, d100, d300, d301, d302, d303, d304, d305, d309, d310, d311, d322, d308]
def fa : List He.Fa := [.glo "need_state", .glo "need_fields", .glo "bounds", .glo "with_stop", .glo "with_push", .glo "after_setting", .glo "need_row", .glo "done", .glo "is_name", .glo "is_integer", .glo "widened", .glo "closes_ring", .glo "gaps_of", .glo "_law_begun", .glo "_law_take", .glo "_law_pick", .glo "_law_value", .glo "_law_names", .glo "_law_order", .glo "_law_up", .glo "_law_state", .glo "_law_tuple", .glo "_law_row", .glo "law", .glo "Order", .cls "Order", .noat "Order" "fields", .noat "Order" "gaps", .noat "Order" "under", .noat "Order" "over", .mkr "Order", .meth "Order" "__contains__", .meth "Order" "place", .free "len", .free "abs", .free "max", .free "min", .free "int", .free "list", .free "tuple", .free "dict", .free "sum", .free "all", .free "any", .free "isinstance", .free "range", .free "enumerate", .free "zip", .free "str", .free "bool", .int "MOST_LETTERS" 8, .str "LETTERS" "abcdefghijklmnopqrstuvwxyz"]
def csL : List (Nat × Str) := [(0, "Order")]
def ex (K : PySem.W.Frag) : Bool := isiX K csL .str (.type "str") && (isiX K csL .int (.type "int") && (isiX K csL .bool (.type "bool") && (isiX K csL .tuple (.type "tuple") && (isiX K csL .list (.type "list") && (isiX K csL (.own 0) (.ref (He.ga K "Order")) && (objX K "Order" && (dnX K "Order" && (etuX K (kwdAt ("done", none) "pushing" K) && (etuX K (He.dflAt ("Order", some "__init__") 0 K))))))))))
section
variable {P : Program} {w : World} {K : PySem.W.Frag} {mg : Str → Option Value} {base h : Heap}
theorem exs (c : SaysM fa fn ex K) : isiX K csL .str (.type "str") = true ∧ isiX K csL .int (.type "int") = true ∧ isiX K csL .bool (.type "bool") = true ∧ isiX K csL .tuple (.type "tuple") = true ∧ isiX K csL .list (.type "list") = true ∧ isiX K csL (.own 0) (.ref (He.ga K "Order")) = true ∧ objX K "Order" = true ∧ dnX K "Order" = true ∧ etuX K (kwdAt ("done", none) "pushing" K) = true ∧ etuX K (He.dflAt ("Order", some "__init__") 0 K) = true := by
  have h := c.ex
  unfold ex at h
  simp only [Bool.and_eq_true] at h
  exact h
theorem csOk : ∀ k ∈ (Tk K).cs, ∃ x, (k, x) ∈ csL ∧ (Tk K).cl k = He.ga (Tk K).K x := by
  intro k hk
  simp only [List.mem_cons, List.not_mem_nil, or_false] at hk
  subst hk
  exact ⟨"Order", by simp [csL], rfl⟩
theorem ob0 (c : SaysM fa fn ex K) : ObOk (Tk K) 0 := by
  refine objX_ok (x := "Order") rfl (by simp) (He.cls_ok (c.d.fact 25 (f := .cls "Order") rfl)) (fun f hf => ?_) (exs c).2.2.2.2.2.2.1
  have hf : f ∈ (["fields", "gaps", "under", "over"] : List Str) := hf
  simp only [List.mem_cons, List.not_mem_nil, or_false] at hf
  rcases hf with rfl | rfl | rfl | rfl
  · exact He.noat_ok (c.d.fact 26 (f := .noat "Order" "fields") rfl)
  · exact He.noat_ok (c.d.fact 27 (f := .noat "Order" "gaps") rfl)
  · exact He.noat_ok (c.d.fact 28 (f := .noat "Order" "under") rfl)
  · exact He.noat_ok (c.d.fact 29 (f := .noat "Order" "over") rfl)
theorem env0 (KX : K.In h) (G : h.Ns mainGlobals mg) (c : SaysM fa fn ex K) {f1 : List ((Str × Nat) × (Nat × List D))} {f2 f3 : List ((Str × Nat) × (Nat × Nat × List D))} {tks : List Str} {ob : List (Str × Nat)} {dn : List ((Nat × Dk) × Nat)} {kf : List ((Str × Nat × List Str) × Nat)} : Env0 (Tk K) mg ⟨f1, f2, f3, conL, clsL, naT, tks, ob, dn, kf⟩ := by
  refine ⟨fun p hp => ?_, fun p hp => ?_, fun x hx => ?_, fun _ _ h => h⟩
  · have hp : p ∈ conL := hp
    unfold conL at hp
    simp only [List.mem_cons, List.not_mem_nil, or_false] at hp
    rcases hp with rfl | rfl
    · obtain ⟨t, e⟩ := He.int_ok KX G (c.d.fact 50 (f := .int "MOST_LETTERS" 8) rfl)
      exact ⟨.int 8, _, e, ⟨t, rfl⟩, fun _ => rfl⟩
    · obtain ⟨t, e⟩ := He.str_ok KX G (c.d.fact 51 (f := .str "LETTERS" "abcdefghijklmnopqrstuvwxyz") rfl)
      exact ⟨.str "abcdefghijklmnopqrstuvwxyz", _, e, ⟨t, rfl⟩, fun _ => ⟨rfl, by decide +kernel⟩⟩
  · have hp : p ∈ clsL := hp
    unfold clsL at hp
    simp only [List.mem_cons, List.not_mem_nil, or_false] at hp
    rcases hp with rfl | rfl | rfl | rfl | rfl | rfl
    · exact ⟨.ty "str", .type "str", isiX_ok (.ty "str") csOk (exs c).1, rfl, .inr ⟨He.free_ok KX G (c.d.fact 48 (f := .free "str") rfl), by decide +kernel⟩⟩
    · exact ⟨.ty "int", .type "int", isiX_ok (.ty "int") csOk (exs c).2.1, rfl, .inr ⟨He.free_ok KX G (c.d.fact 37 (f := .free "int") rfl), by decide +kernel⟩⟩
    · exact ⟨.ty "bool", .type "bool", isiX_ok (.ty "bool") csOk (exs c).2.2.1, rfl, .inr ⟨He.free_ok KX G (c.d.fact 49 (f := .free "bool") rfl), by decide +kernel⟩⟩
    · exact ⟨.ty "tuple", .type "tuple", isiX_ok (.ty "tuple") csOk (exs c).2.2.2.1, rfl, .inr ⟨He.free_ok KX G (c.d.fact 39 (f := .free "tuple") rfl), by decide +kernel⟩⟩
    · exact ⟨.ty "list", .type "list", isiX_ok (.ty "list") csOk (exs c).2.2.2.2.1, rfl, .inr ⟨He.free_ok KX G (c.d.fact 38 (f := .free "list") rfl), by decide +kernel⟩⟩
    · exact ⟨.ref (He.ga K "Order"), .ref (He.ga K "Order"), isiX_ok (.own _) csOk (exs c).2.2.2.2.2.1, rfl, .inl (He.glo_ok KX G (c.d.fact 24 (f := .glo "Order") rfl))⟩
  · unfold bltNames at hx
    simp only [List.mem_cons, List.not_mem_nil, or_false] at hx
    rcases hx with rfl | rfl | rfl | rfl | rfl | rfl | rfl | rfl | rfl | rfl | rfl | rfl | rfl | rfl | rfl
    · exact He.free_ok KX G (c.d.fact 33 (f := .free "len") rfl)
    · exact He.free_ok KX G (c.d.fact 34 (f := .free "abs") rfl)
    · exact He.free_ok KX G (c.d.fact 35 (f := .free "max") rfl)
    · exact He.free_ok KX G (c.d.fact 36 (f := .free "min") rfl)
    · exact He.free_ok KX G (c.d.fact 37 (f := .free "int") rfl)
    · exact He.free_ok KX G (c.d.fact 38 (f := .free "list") rfl)
    · exact He.free_ok KX G (c.d.fact 39 (f := .free "tuple") rfl)
    · exact He.free_ok KX G (c.d.fact 40 (f := .free "dict") rfl)
    · exact He.free_ok KX G (c.d.fact 41 (f := .free "sum") rfl)
    · exact He.free_ok KX G (c.d.fact 42 (f := .free "all") rfl)
    · exact He.free_ok KX G (c.d.fact 43 (f := .free "any") rfl)
    · exact He.free_ok KX G (c.d.fact 44 (f := .free "isinstance") rfl)
    · exact He.free_ok KX G (c.d.fact 45 (f := .free "range") rfl)
    · exact He.free_ok KX G (c.d.fact 46 (f := .free "enumerate") rfl)
    · exact He.free_ok KX G (c.d.fact 47 (f := .free "zip") rfl)
/-! 4 is_integer, level 1 -/
theorem sc4 : FnScope ["thing"] ["thing"] (fnSc (top 22)) := ⟨rfl, rfl, rfl, by decide +kernel, rfl, by decide +kernel, by decide +kernel⟩
theorem ar4 : Ar 1 (Γt 4) := by
  intro ss Q E h
  have h : sp_is_integer ss Q E := h
  unfold sp_is_integer at h
  first | (obtain ⟨rfl, _⟩ := h; rfl) | (obtain ⟨_, rfl, _⟩ := h; rfl) | (obtain ⟨_, _, rfl, _⟩ := h; rfl) | (obtain ⟨_, _, _, rfl, _⟩ := h; rfl) | (obtain ⟨_, _, _, _, rfl, _⟩ := h; rfl) | (obtain ⟨_, _, _, _, _, rfl, _⟩ := h; rfl) | (obtain ⟨_, _, _, _, _, _, rfl, _⟩ := h; rfl) | (obtain ⟨_, _, _, _, _, _, _, rfl, _⟩ := h; rfl) | (obtain ⟨_, _, _, _, _, _, _, _, rfl, _⟩ := h; rfl) | (obtain ⟨_, _, _, _, _, _, _, _, _, rfl, _⟩ := h; rfl)
def t4 : Tab := ⟨[], [], [], conL, clsL, naT, ["pair", "gaps", "ways"], [("Order", 0)], [], []⟩
theorem ir4 : cSs 60 (t4.cc ["thing"] (top 22) [] [] none) (fnBd (top 22)) = ir_is_integer := by kernel_rfl
theorem k4 (KX : K.In h) (G : h.Ns mainGlobals mg) (c : SaysM fa fn ex K) : Kn (Tk K) Γt P w mg base 1 (He.fAd K ("is_integer", none)) 4 [] := by
  obtain ⟨fd, F⟩ := c.d.def_ 0 (d := d4) rfl
  exact kn_of (T := Tk K) (Γ := Γt) (t := t4) (N := ["thing"]) (ps := ["thing"]) (x := "is_integer") (qual := "is_integer") (st := (top 22)) (L := 0) (n := 60) F sc4 (env0 KX G c) ir4 (fun _ _ _ _ _ _ us hl => match us, hl with | [_], _ => rfl) ar4
    (fun p hp => by cases hp)
    (fun p hp => by cases hp)
    (fun p hp => by cases hp)
    (fun p hp => by cases hp)
    (fun p hp => by cases hp)
    (fun ss Q E h => ok_is_integer (Γ := Γt)  h)
/-! 103 Order.__contains__, level 2 -/
theorem sc103 : FnScope ["self", "values", "found", "name", "value", "gap", "low", "high"] ["self", "values"] (fnSc (sub 27 3)) := ⟨rfl, rfl, rfl, by decide +kernel, rfl, by decide +kernel, by decide +kernel⟩
theorem ar103 : Ar 2 (Γt 103) := by
  intro ss Q E h
  have h : sp_contains ss Q E := h
  unfold sp_contains at h
  first | (obtain ⟨rfl, _⟩ := h; rfl) | (obtain ⟨_, rfl, _⟩ := h; rfl) | (obtain ⟨_, _, rfl, _⟩ := h; rfl) | (obtain ⟨_, _, _, rfl, _⟩ := h; rfl) | (obtain ⟨_, _, _, _, rfl, _⟩ := h; rfl) | (obtain ⟨_, _, _, _, _, rfl, _⟩ := h; rfl) | (obtain ⟨_, _, _, _, _, _, rfl, _⟩ := h; rfl) | (obtain ⟨_, _, _, _, _, _, _, rfl, _⟩ := h; rfl) | (obtain ⟨_, _, _, _, _, _, _, _, rfl, _⟩ := h; rfl) | (obtain ⟨_, _, _, _, _, _, _, _, _, rfl, _⟩ := h; rfl)
def t103 : Tab := ⟨[(("is_integer", 1), 4, [])], [], [], conL, clsL, naT, ["pair", "gaps", "ways"], [("Order", 0)], [], []⟩
theorem ir103 : cSs 60 (t103.cc ["self", "values", "found", "name", "value", "gap", "low", "high"] (sub 27 3) [] [] (some 0)) (fnBd (sub 27 3)) = ir_Order_contains := by kernel_rfl
theorem k103 (KX : K.In h) (G : h.Ns mainGlobals mg) (c : SaysM fa fn ex K) : Kn (Tk K) Γt P w mg base 2 (He.fAd K ("Order", some "__contains__")) 103 [] := by
  obtain ⟨fd, F⟩ := c.d.def_ 1 (d := d103) rfl
  exact kn_of (T := Tk K) (Γ := Γt) (t := t103) (N := ["self", "values", "found", "name", "value", "gap", "low", "high"]) (ps := ["self", "values"]) (x := "__contains__") (qual := "Order.__contains__") (st := (sub 27 3)) (L := 1) (n := 60) F sc103 (env0 KX G c) ir103 (fun _ _ _ _ _ _ us hl => match us, hl with | [_, _], _ => rfl) ar103
    (fun p hp => by
    rcases List.mem_cons.mp hp with rfl | hp
    · exact ⟨1, _, by decide, He.glo_ok KX G (c.d.fact 9 (f := .glo "is_integer") rfl), (let ⟨_, F⟩ := c.d.def_ 0 (d := d4) rfl; F.kp), k4 KX G c⟩
    cases hp)
    (fun p hp => by cases hp)
    (fun p hp => by cases hp)
    (fun p hp => by cases hp)
    (fun p hp => by cases hp)
    (fun ss Q E h => ok_contains (Γ := Γt) rfl h)
/-! 8 need_state, level 4 -/
theorem sc8 : FnScope ["order", "state"] ["order", "state"] (fnSc (top 9)) := ⟨rfl, rfl, rfl, by decide +kernel, rfl, by decide +kernel, by decide +kernel⟩
theorem ar8 : Ar 2 (Γt 8) := by
  intro ss Q E h
  have h : sp_need_state ss Q E := h
  unfold sp_need_state at h
  first | (obtain ⟨rfl, _⟩ := h; rfl) | (obtain ⟨_, rfl, _⟩ := h; rfl) | (obtain ⟨_, _, rfl, _⟩ := h; rfl) | (obtain ⟨_, _, _, rfl, _⟩ := h; rfl) | (obtain ⟨_, _, _, _, rfl, _⟩ := h; rfl) | (obtain ⟨_, _, _, _, _, rfl, _⟩ := h; rfl) | (obtain ⟨_, _, _, _, _, _, rfl, _⟩ := h; rfl) | (obtain ⟨_, _, _, _, _, _, _, rfl, _⟩ := h; rfl) | (obtain ⟨_, _, _, _, _, _, _, _, rfl, _⟩ := h; rfl) | (obtain ⟨_, _, _, _, _, _, _, _, _, rfl, _⟩ := h; rfl)
def t8 : Tab := ⟨[], [], [], conL, clsL, naT, ["pair", "gaps", "ways"], [("order", 0), ("Order", 0)], [((0, .nin), 103)], []⟩
theorem ir8 : cSs 60 (t8.cc ["order", "state"] (top 9) [] [] none) (fnBd (top 9)) = ir_need_state := by kernel_rfl
theorem k8 (KX : K.In h) (G : h.Ns mainGlobals mg) (c : SaysM fa fn ex K) : Kn (Tk K) Γt P w mg base 4 (He.fAd K ("need_state", none)) 8 [] := by
  obtain ⟨fd, F⟩ := c.d.def_ 2 (d := d8) rfl
  exact kn_of (T := Tk K) (Γ := Γt) (t := t8) (N := ["order", "state"]) (ps := ["order", "state"]) (x := "need_state") (qual := "need_state") (st := (top 9)) (L := 3) (n := 60) F sc8 (env0 KX G c) ir8 (fun _ _ _ _ _ _ us hl => match us, hl with | [_, _], _ => rfl) ar8
    (fun p hp => by cases hp)
    (fun p hp => by cases hp)
    (fun p hp => by cases hp)
    (fun p hp => by
    rcases List.mem_cons.mp hp with rfl | hp
    · exact ⟨2, _, by decide, He.meth_ok (c.d.fact 31 (f := .meth "Order" "__contains__") rfl), k103 KX G c, dnX_ok (exs c).2.2.2.2.2.2.2.1⟩
    cases hp)
    (fun p hp => by cases hp)
    (fun ss Q E h => ok_need_state (Γ := Γt) rfl h)
/-! 106 Order.place, level 1 -/
theorem sc106 : FnScope ["self", "name"] ["self", "name"] (fnSc (sub 27 6)) := ⟨rfl, rfl, rfl, by decide +kernel, rfl, by decide +kernel, by decide +kernel⟩
theorem ar106 : Ar 2 (Γt 106) := by
  intro ss Q E h
  have h : sp_place ss Q E := h
  unfold sp_place at h
  first | (obtain ⟨rfl, _⟩ := h; rfl) | (obtain ⟨_, rfl, _⟩ := h; rfl) | (obtain ⟨_, _, rfl, _⟩ := h; rfl) | (obtain ⟨_, _, _, rfl, _⟩ := h; rfl) | (obtain ⟨_, _, _, _, rfl, _⟩ := h; rfl) | (obtain ⟨_, _, _, _, _, rfl, _⟩ := h; rfl) | (obtain ⟨_, _, _, _, _, _, rfl, _⟩ := h; rfl) | (obtain ⟨_, _, _, _, _, _, _, rfl, _⟩ := h; rfl) | (obtain ⟨_, _, _, _, _, _, _, _, rfl, _⟩ := h; rfl) | (obtain ⟨_, _, _, _, _, _, _, _, _, rfl, _⟩ := h; rfl)
def t106 : Tab := ⟨[], [], [], conL, clsL, naT, ["pair", "gaps", "ways"], [("Order", 0)], [], []⟩
theorem ir106 : cSs 60 (t106.cc ["self", "name"] (sub 27 6) [] [] (some 0)) (fnBd (sub 27 6)) = ir_Order_place := by kernel_rfl
theorem k106 (KX : K.In h) (G : h.Ns mainGlobals mg) (c : SaysM fa fn ex K) : Kn (Tk K) Γt P w mg base 1 (He.fAd K ("Order", some "place")) 106 [] := by
  obtain ⟨fd, F⟩ := c.d.def_ 3 (d := d106) rfl
  exact kn_of (T := Tk K) (Γ := Γt) (t := t106) (N := ["self", "name"]) (ps := ["self", "name"]) (x := "place") (qual := "Order.place") (st := (sub 27 6)) (L := 0) (n := 60) F sc106 (env0 KX G c) ir106 (fun _ _ _ _ _ _ us hl => match us, hl with | [_, _], _ => rfl) ar106
    (fun p hp => by cases hp)
    (fun p hp => by cases hp)
    (fun p hp => by cases hp)
    (fun p hp => by cases hp)
    (fun p hp => by cases hp)
    (fun ss Q E h => ok_place (Γ := Γt)  h)
/-! 10 bounds, level 2 -/
theorem sc10 : FnScope ["order", "state", "field", "lows", "highs", "low", "gap", "high"] ["order", "state", "field"] (fnSc (top 11)) := ⟨rfl, rfl, rfl, by decide +kernel, rfl, by decide +kernel, by decide +kernel⟩
theorem ar10 : Ar 3 (Γt 10) := by
  intro ss Q E h
  have h : sp_bounds ss Q E := h
  unfold sp_bounds at h
  first | (obtain ⟨rfl, _⟩ := h; rfl) | (obtain ⟨_, rfl, _⟩ := h; rfl) | (obtain ⟨_, _, rfl, _⟩ := h; rfl) | (obtain ⟨_, _, _, rfl, _⟩ := h; rfl) | (obtain ⟨_, _, _, _, rfl, _⟩ := h; rfl) | (obtain ⟨_, _, _, _, _, rfl, _⟩ := h; rfl) | (obtain ⟨_, _, _, _, _, _, rfl, _⟩ := h; rfl) | (obtain ⟨_, _, _, _, _, _, _, rfl, _⟩ := h; rfl) | (obtain ⟨_, _, _, _, _, _, _, _, rfl, _⟩ := h; rfl) | (obtain ⟨_, _, _, _, _, _, _, _, _, rfl, _⟩ := h; rfl)
def t10 : Tab := ⟨[], [], [(("place", 1), 0, 106, [])], conL, clsL, naT, ["pair", "gaps", "ways"], [("order", 0), ("Order", 0)], [], []⟩
theorem ir10 : cSs 60 (t10.cc ["order", "state", "field", "lows", "highs", "low", "gap", "high"] (top 11) [] [] none) (fnBd (top 11)) = ir_bounds := by kernel_rfl
theorem k10 (KX : K.In h) (G : h.Ns mainGlobals mg) (c : SaysM fa fn ex K) : Kn (Tk K) Γt P w mg base 2 (He.fAd K ("bounds", none)) 10 [] := by
  obtain ⟨fd, F⟩ := c.d.def_ 4 (d := d10) rfl
  exact kn_of (T := Tk K) (Γ := Γt) (t := t10) (N := ["order", "state", "field", "lows", "highs", "low", "gap", "high"]) (ps := ["order", "state", "field"]) (x := "bounds") (qual := "bounds") (st := (top 11)) (L := 1) (n := 60) F sc10 (env0 KX G c) ir10 (fun _ _ _ _ _ _ us hl => match us, hl with | [_, _, _], _ => rfl) ar10
    (fun p hp => by cases hp)
    (fun p hp => by cases hp)
    (fun p hp => by
    rcases List.mem_cons.mp hp with rfl | hp
    · exact ⟨1, _, by decide, He.cls_ok (c.d.fact 25 (f := .cls "Order") rfl), He.meth_ok (c.d.fact 32 (f := .meth "Order" "place") rfl), k106 KX G c⟩
    cases hp)
    (fun p hp => by cases hp)
    (fun p hp => by cases hp)
    (fun ss Q E h => ok_bounds (Γ := Γt) rfl h)
/-! 12 with_stop, level 3 -/
theorem sc12 : FnScope ["order", "state", "field", "value", "found", "lows", "highs"] ["order", "state", "field", "value"] (fnSc (top 13)) := ⟨rfl, rfl, rfl, by decide +kernel, rfl, by decide +kernel, by decide +kernel⟩
theorem ar12 : Ar 4 (Γt 12) := by
  intro ss Q E h
  have h : sp_with_stop ss Q E := h
  unfold sp_with_stop at h
  first | (obtain ⟨rfl, _⟩ := h; rfl) | (obtain ⟨_, rfl, _⟩ := h; rfl) | (obtain ⟨_, _, rfl, _⟩ := h; rfl) | (obtain ⟨_, _, _, rfl, _⟩ := h; rfl) | (obtain ⟨_, _, _, _, rfl, _⟩ := h; rfl) | (obtain ⟨_, _, _, _, _, rfl, _⟩ := h; rfl) | (obtain ⟨_, _, _, _, _, _, rfl, _⟩ := h; rfl) | (obtain ⟨_, _, _, _, _, _, _, rfl, _⟩ := h; rfl) | (obtain ⟨_, _, _, _, _, _, _, _, rfl, _⟩ := h; rfl) | (obtain ⟨_, _, _, _, _, _, _, _, _, rfl, _⟩ := h; rfl)
def t12 : Tab := ⟨[(("bounds", 3), 10, [])], [], [(("place", 1), 0, 106, [])], conL, clsL, naT, ["pair", "gaps", "ways"], [("order", 0), ("Order", 0)], [], []⟩
theorem ir12 : cSs 60 (t12.cc ["order", "state", "field", "value", "found", "lows", "highs"] (top 13) [4] [] none) (fnBd (top 13)) = ir_with_stop := by kernel_rfl
theorem k12 (KX : K.In h) (G : h.Ns mainGlobals mg) (c : SaysM fa fn ex K) : Kn (Tk K) Γt P w mg base 3 (He.fAd K ("with_stop", none)) 12 [] := by
  obtain ⟨fd, F⟩ := c.d.def_ 5 (d := d12) rfl
  exact kn_of (T := Tk K) (Γ := Γt) (t := t12) (N := ["order", "state", "field", "value", "found", "lows", "highs"]) (ps := ["order", "state", "field", "value"]) (x := "with_stop") (qual := "with_stop") (st := (top 13)) (L := 2) (n := 60) F sc12 (env0 KX G c) ir12 (fun _ _ _ _ _ _ us hl => match us, hl with | [_, _, _, _], _ => rfl) ar12
    (fun p hp => by
    rcases List.mem_cons.mp hp with rfl | hp
    · exact ⟨2, _, by decide, He.glo_ok KX G (c.d.fact 2 (f := .glo "bounds") rfl), (let ⟨_, F⟩ := c.d.def_ 4 (d := d10) rfl; F.kp), k10 KX G c⟩
    cases hp)
    (fun p hp => by cases hp)
    (fun p hp => by
    rcases List.mem_cons.mp hp with rfl | hp
    · exact ⟨1, _, by decide, He.cls_ok (c.d.fact 25 (f := .cls "Order") rfl), He.meth_ok (c.d.fact 32 (f := .meth "Order" "place") rfl), k106 KX G c⟩
    cases hp)
    (fun p hp => by cases hp)
    (fun p hp => by cases hp)
    (fun ss Q E h => ok_with_stop (Γ := Γt) rfl rfl h)
/-! 13 with_push, level 2 -/
theorem sc13 : FnScope ["order", "state", "field", "value", "found", "high", "gap", "at", "low"] ["order", "state", "field", "value"] (fnSc (top 14)) := ⟨rfl, rfl, rfl, by decide +kernel, rfl, by decide +kernel, by decide +kernel⟩
theorem ar13 : Ar 4 (Γt 13) := by
  intro ss Q E h
  have h : sp_with_push ss Q E := h
  unfold sp_with_push at h
  first | (obtain ⟨rfl, _⟩ := h; rfl) | (obtain ⟨_, rfl, _⟩ := h; rfl) | (obtain ⟨_, _, rfl, _⟩ := h; rfl) | (obtain ⟨_, _, _, rfl, _⟩ := h; rfl) | (obtain ⟨_, _, _, _, rfl, _⟩ := h; rfl) | (obtain ⟨_, _, _, _, _, rfl, _⟩ := h; rfl) | (obtain ⟨_, _, _, _, _, _, rfl, _⟩ := h; rfl) | (obtain ⟨_, _, _, _, _, _, _, rfl, _⟩ := h; rfl) | (obtain ⟨_, _, _, _, _, _, _, _, rfl, _⟩ := h; rfl) | (obtain ⟨_, _, _, _, _, _, _, _, _, rfl, _⟩ := h; rfl)
def t13 : Tab := ⟨[], [], [(("place", 1), 0, 106, [])], conL, clsL, naT, ["pair", "gaps", "ways"], [("order", 0), ("Order", 0)], [], []⟩
theorem ir13 : cSs 60 (t13.cc ["order", "state", "field", "value", "found", "high", "gap", "at", "low"] (top 14) [4] [] none) (fnBd (top 14)) = ir_with_push := by kernel_rfl
theorem k13 (KX : K.In h) (G : h.Ns mainGlobals mg) (c : SaysM fa fn ex K) : Kn (Tk K) Γt P w mg base 2 (He.fAd K ("with_push", none)) 13 [] := by
  obtain ⟨fd, F⟩ := c.d.def_ 6 (d := d13) rfl
  exact kn_of (T := Tk K) (Γ := Γt) (t := t13) (N := ["order", "state", "field", "value", "found", "high", "gap", "at", "low"]) (ps := ["order", "state", "field", "value"]) (x := "with_push") (qual := "with_push") (st := (top 14)) (L := 1) (n := 60) F sc13 (env0 KX G c) ir13 (fun _ _ _ _ _ _ us hl => match us, hl with | [_, _, _, _], _ => rfl) ar13
    (fun p hp => by cases hp)
    (fun p hp => by cases hp)
    (fun p hp => by
    rcases List.mem_cons.mp hp with rfl | hp
    · exact ⟨1, _, by decide, He.cls_ok (c.d.fact 25 (f := .cls "Order") rfl), He.meth_ok (c.d.fact 32 (f := .meth "Order" "place") rfl), k106 KX G c⟩
    cases hp)
    (fun p hp => by cases hp)
    (fun p hp => by cases hp)
    (fun ss Q E h => ok_with_push (Γ := Γt) rfl h)
/-! 14 after_setting, level 4 -/
theorem sc14 : FnScope ["order", "state", "setting", "pushing", "field", "value"] ["order", "state", "setting", "pushing"] (fnSc (top 15)) := ⟨rfl, rfl, rfl, by decide +kernel, rfl, by decide +kernel, by decide +kernel⟩
theorem ar14 : Ar 4 (Γt 14) := by
  intro ss Q E h
  have h : sp_after ss Q E := h
  unfold sp_after at h
  first | (obtain ⟨rfl, _⟩ := h; rfl) | (obtain ⟨_, rfl, _⟩ := h; rfl) | (obtain ⟨_, _, rfl, _⟩ := h; rfl) | (obtain ⟨_, _, _, rfl, _⟩ := h; rfl) | (obtain ⟨_, _, _, _, rfl, _⟩ := h; rfl) | (obtain ⟨_, _, _, _, _, rfl, _⟩ := h; rfl) | (obtain ⟨_, _, _, _, _, _, rfl, _⟩ := h; rfl) | (obtain ⟨_, _, _, _, _, _, _, rfl, _⟩ := h; rfl) | (obtain ⟨_, _, _, _, _, _, _, _, rfl, _⟩ := h; rfl) | (obtain ⟨_, _, _, _, _, _, _, _, _, rfl, _⟩ := h; rfl)
def t14 : Tab := ⟨[(("with_stop", 4), 12, []), (("with_push", 4), 13, [])], [], [], conL, clsL, naT, ["pair", "gaps", "ways"], [("order", 0), ("Order", 0)], [], []⟩
theorem ir14 : cSs 60 (t14.cc ["order", "state", "setting", "pushing", "field", "value"] (top 15) [] [] none) (fnBd (top 15)) = ir_after_setting := by kernel_rfl
theorem k14 (KX : K.In h) (G : h.Ns mainGlobals mg) (c : SaysM fa fn ex K) : Kn (Tk K) Γt P w mg base 4 (He.fAd K ("after_setting", none)) 14 [] := by
  obtain ⟨fd, F⟩ := c.d.def_ 7 (d := d14) rfl
  exact kn_of (T := Tk K) (Γ := Γt) (t := t14) (N := ["order", "state", "setting", "pushing", "field", "value"]) (ps := ["order", "state", "setting", "pushing"]) (x := "after_setting") (qual := "after_setting") (st := (top 15)) (L := 3) (n := 60) F sc14 (env0 KX G c) ir14 (fun _ _ _ _ _ _ us hl => match us, hl with | [_, _, _, _], _ => rfl) ar14
    (fun p hp => by
    rcases List.mem_cons.mp hp with rfl | hp
    · exact ⟨3, _, by decide, He.glo_ok KX G (c.d.fact 3 (f := .glo "with_stop") rfl), (let ⟨_, F⟩ := c.d.def_ 5 (d := d12) rfl; F.kp), k12 KX G c⟩
    rcases List.mem_cons.mp hp with rfl | hp
    · exact ⟨2, _, by decide, He.glo_ok KX G (c.d.fact 4 (f := .glo "with_push") rfl), (let ⟨_, F⟩ := c.d.def_ 6 (d := d13) rfl; F.kp), k13 KX G c⟩
    cases hp)
    (fun p hp => by cases hp)
    (fun p hp => by cases hp)
    (fun p hp => by cases hp)
    (fun p hp => by cases hp)
    (fun ss Q E h => ok_after (Γ := Γt) rfl rfl h)
/-! 9 need_fields, level 1 -/
theorem sc9 : FnScope ["order", "names", "name"] ["order", "names"] (fnSc (top 10)) := ⟨rfl, rfl, rfl, by decide +kernel, rfl, by decide +kernel, by decide +kernel⟩
theorem ar9 : Ar 2 (Γt 9) := by
  intro ss Q E h
  have h : sp_need_fields ss Q E := h
  unfold sp_need_fields at h
  first | (obtain ⟨rfl, _⟩ := h; rfl) | (obtain ⟨_, rfl, _⟩ := h; rfl) | (obtain ⟨_, _, rfl, _⟩ := h; rfl) | (obtain ⟨_, _, _, rfl, _⟩ := h; rfl) | (obtain ⟨_, _, _, _, rfl, _⟩ := h; rfl) | (obtain ⟨_, _, _, _, _, rfl, _⟩ := h; rfl) | (obtain ⟨_, _, _, _, _, _, rfl, _⟩ := h; rfl) | (obtain ⟨_, _, _, _, _, _, _, rfl, _⟩ := h; rfl) | (obtain ⟨_, _, _, _, _, _, _, _, rfl, _⟩ := h; rfl) | (obtain ⟨_, _, _, _, _, _, _, _, _, rfl, _⟩ := h; rfl)
def t9 : Tab := ⟨[], [], [], conL, clsL, naT, ["pair", "gaps", "ways"], [("order", 0), ("Order", 0)], [], []⟩
theorem ir9 : cSs 60 (t9.cc ["order", "names", "name"] (top 10) [] [] none) (fnBd (top 10)) = ir_need_fields := by kernel_rfl
theorem k9 (KX : K.In h) (G : h.Ns mainGlobals mg) (c : SaysM fa fn ex K) : Kn (Tk K) Γt P w mg base 1 (He.fAd K ("need_fields", none)) 9 [] := by
  obtain ⟨fd, F⟩ := c.d.def_ 8 (d := d9) rfl
  exact kn_of (T := Tk K) (Γ := Γt) (t := t9) (N := ["order", "names", "name"]) (ps := ["order", "names"]) (x := "need_fields") (qual := "need_fields") (st := (top 10)) (L := 0) (n := 60) F sc9 (env0 KX G c) ir9 (fun _ _ _ _ _ _ us hl => match us, hl with | [_, _], _ => rfl) ar9
    (fun p hp => by cases hp)
    (fun p hp => by cases hp)
    (fun p hp => by cases hp)
    (fun p hp => by cases hp)
    (fun p hp => by cases hp)
    (fun ss Q E h => ok_need_fields (Γ := Γt)  h)
/-! 15 need_row, level 2 -/
theorem sc15 : FnScope ["order", "row", "pushing", "field", "value"] ["order", "row", "pushing"] (fnSc (top 16)) := ⟨rfl, rfl, rfl, by decide +kernel, rfl, by decide +kernel, by decide +kernel⟩
theorem ar15 : Ar 3 (Γt 15) := by
  intro ss Q E h
  have h : sp_need_row ss Q E := h
  unfold sp_need_row at h
  first | (obtain ⟨rfl, _⟩ := h; rfl) | (obtain ⟨_, rfl, _⟩ := h; rfl) | (obtain ⟨_, _, rfl, _⟩ := h; rfl) | (obtain ⟨_, _, _, rfl, _⟩ := h; rfl) | (obtain ⟨_, _, _, _, rfl, _⟩ := h; rfl) | (obtain ⟨_, _, _, _, _, rfl, _⟩ := h; rfl) | (obtain ⟨_, _, _, _, _, _, rfl, _⟩ := h; rfl) | (obtain ⟨_, _, _, _, _, _, _, rfl, _⟩ := h; rfl) | (obtain ⟨_, _, _, _, _, _, _, _, rfl, _⟩ := h; rfl) | (obtain ⟨_, _, _, _, _, _, _, _, _, rfl, _⟩ := h; rfl)
def t15 : Tab := ⟨[(("need_fields", 2), 9, [])], [], [], conL, clsL, naT, ["pair", "gaps", "ways"], [("order", 0), ("Order", 0)], [], []⟩
theorem ir15 : cSs 60 (t15.cc ["order", "row", "pushing", "field", "value"] (top 16) [] [] none) (fnBd (top 16)) = ir_need_row := by kernel_rfl
theorem k15 (KX : K.In h) (G : h.Ns mainGlobals mg) (c : SaysM fa fn ex K) : Kn (Tk K) Γt P w mg base 2 (He.fAd K ("need_row", none)) 15 [] := by
  obtain ⟨fd, F⟩ := c.d.def_ 9 (d := d15) rfl
  exact kn_of (T := Tk K) (Γ := Γt) (t := t15) (N := ["order", "row", "pushing", "field", "value"]) (ps := ["order", "row", "pushing"]) (x := "need_row") (qual := "need_row") (st := (top 16)) (L := 1) (n := 60) F sc15 (env0 KX G c) ir15 (fun _ _ _ _ _ _ us hl => match us, hl with | [_, _, _], _ => rfl) ar15
    (fun p hp => by
    rcases List.mem_cons.mp hp with rfl | hp
    · exact ⟨1, _, by decide, He.glo_ok KX G (c.d.fact 1 (f := .glo "need_fields") rfl), (let ⟨_, F⟩ := c.d.def_ 8 (d := d9) rfl; F.kp), k9 KX G c⟩
    cases hp)
    (fun p hp => by cases hp)
    (fun p hp => by cases hp)
    (fun p hp => by cases hp)
    (fun p hp => by cases hp)
    (fun ss Q E h => ok_need_row (Γ := Γt) rfl h)
/-! 16 done, level 5 -/
theorem sc16 : FnScope ["order", "row", "state", "pushing", "setting"] ["order", "row", "state", "pushing"] (fnSc (top 17)) := ⟨rfl, rfl, rfl, by decide +kernel, rfl, by decide +kernel, by decide +kernel⟩
theorem ar16 : Ar 4 (Γt 16) := by
  intro ss Q E h
  have h : sp_done ss Q E := h
  unfold sp_done at h
  first | (obtain ⟨rfl, _⟩ := h; rfl) | (obtain ⟨_, rfl, _⟩ := h; rfl) | (obtain ⟨_, _, rfl, _⟩ := h; rfl) | (obtain ⟨_, _, _, rfl, _⟩ := h; rfl) | (obtain ⟨_, _, _, _, rfl, _⟩ := h; rfl) | (obtain ⟨_, _, _, _, _, rfl, _⟩ := h; rfl) | (obtain ⟨_, _, _, _, _, _, rfl, _⟩ := h; rfl) | (obtain ⟨_, _, _, _, _, _, _, rfl, _⟩ := h; rfl) | (obtain ⟨_, _, _, _, _, _, _, _, rfl, _⟩ := h; rfl) | (obtain ⟨_, _, _, _, _, _, _, _, _, rfl, _⟩ := h; rfl)
def t16 : Tab := ⟨[(("need_state", 2), 8, []), (("need_row", 3), 15, []), (("after_setting", 4), 14, [])], [], [], conL, clsL, naT, ["pair", "gaps", "ways"], [("order", 0), ("Order", 0)], [], []⟩
theorem ir16 : cSs 60 (t16.cc ["order", "row", "state", "pushing", "setting"] (top 17) [] [] none) (fnBd (top 17)) = ir_done := by kernel_rfl
theorem g16 (KX : K.In h) (G : h.Ns mainGlobals mg) (c : SaysM fa fn ex K) : ∃ fd, FunD (Tk K).K "done" "done" (fnArgs (top 17)) (fnBd (top 17)) (fnSc (top 17)) ((d16).dvs K) ((d16).kws K) (He.fAd K ("done", none)) fd ∧ FnOk P w (Tk K).K mg base (L2.CX P w) 5 (He.fAd K ("done", none)) fd ["order", "row", "state", "pushing"] (spF (Tk K) 4 (Γt 16)) := by
  obtain ⟨fd, F⟩ := c.d.def_ 10 (d := d16) rfl
  refine ⟨fd, F, ?_⟩
  exact kn_ofD (T := Tk K) (Γ := Γt) (t := t16) (N := ["order", "row", "state", "pushing", "setting"]) (ps := ["order", "row", "state", "pushing"]) (x := "done") (qual := "done") (st := (top 17)) (L := 4) (n := 60) F sc16 (env0 KX G c) ir16
    (fun p hp => by
    rcases List.mem_cons.mp hp with rfl | hp
    · exact ⟨4, _, by decide, He.glo_ok KX G (c.d.fact 0 (f := .glo "need_state") rfl), (let ⟨_, F⟩ := c.d.def_ 2 (d := d8) rfl; F.kp), k8 KX G c⟩
    rcases List.mem_cons.mp hp with rfl | hp
    · exact ⟨2, _, by decide, He.glo_ok KX G (c.d.fact 6 (f := .glo "need_row") rfl), (let ⟨_, F⟩ := c.d.def_ 9 (d := d15) rfl; F.kp), k15 KX G c⟩
    rcases List.mem_cons.mp hp with rfl | hp
    · exact ⟨4, _, by decide, He.glo_ok KX G (c.d.fact 5 (f := .glo "after_setting") rfl), (let ⟨_, F⟩ := c.d.def_ 7 (d := d14) rfl; F.kp), k14 KX G c⟩
    cases hp)
    (fun p hp => by cases hp)
    (fun p hp => by cases hp)
    (fun p hp => by cases hp)
    (fun p hp => by cases hp)
    (fun ss Q E h => ok_done (Γ := Γt) rfl rfl rfl h)
theorem k16k (KX : K.In h) (G : h.Ns mainGlobals mg) (c : SaysM fa fn ex K) : KnK (Tk K) Γt P w mg base 5 (He.fAd K ("done", none)) 3 ["pushing"] 16 := by
  obtain ⟨fd, F, ok⟩ := g16 (P := P) (w := w) (base := base) KX G c
  exact ⟨fd, ["order", "row", "state", "pushing"], ok, kb0 F 3 ["pushing"] (fun _ _ _ _ _ _ us ws h1 h2 => match us, ws, h1, h2 with | [_, _, _], [_], _, _ => rfl), rfl, ar16⟩
theorem k16d (KX : K.In h) (G : h.Ns mainGlobals mg) (c : SaysM fa fn ex K) : Kn (Tk K) Γt P w mg base 5 (He.fAd K ("done", none)) 16 [.tup []] := by
  obtain ⟨fd, F, ok⟩ := g16 (P := P) (w := w) (base := base) KX G c
  obtain ⟨dsv, hv, hb⟩ := F.binds0 (ps := ["order", "row", "state", "pushing"]) 3 (fun z => by cases z) rfl (fun _ _ _ _ _ _ us ks h1 h2 => match us, ks, h1, h2 with | [_, _, _], [_], _, _ => ⟨_, _, _, _, _, _, rfl, rfl, rfl⟩)
  exact ⟨fd, ["order", "row", "state", "pushing"], dsv, _, ok, hb, hv, fun _ => ⟨_, _, rfl, etuX_ok (T := Tk K) (exs c).2.2.2.2.2.2.2.2.1 _, rfl⟩, ar16⟩
/-! 3 is_name, level 1 -/
theorem sc3 : FnScope ["thing", "letter"] ["thing"] (fnSc (top 21)) := ⟨rfl, rfl, rfl, by decide +kernel, rfl, by decide +kernel, by decide +kernel⟩
theorem ar3 : Ar 1 (Γt 3) := by
  intro ss Q E h
  have h : sp_is_name ss Q E := h
  unfold sp_is_name at h
  first | (obtain ⟨rfl, _⟩ := h; rfl) | (obtain ⟨_, rfl, _⟩ := h; rfl) | (obtain ⟨_, _, rfl, _⟩ := h; rfl) | (obtain ⟨_, _, _, rfl, _⟩ := h; rfl) | (obtain ⟨_, _, _, _, rfl, _⟩ := h; rfl) | (obtain ⟨_, _, _, _, _, rfl, _⟩ := h; rfl) | (obtain ⟨_, _, _, _, _, _, rfl, _⟩ := h; rfl) | (obtain ⟨_, _, _, _, _, _, _, rfl, _⟩ := h; rfl) | (obtain ⟨_, _, _, _, _, _, _, _, rfl, _⟩ := h; rfl) | (obtain ⟨_, _, _, _, _, _, _, _, _, rfl, _⟩ := h; rfl)
def t3 : Tab := ⟨[], [], [], conL, clsL, naT, ["pair", "gaps", "ways"], [("Order", 0)], [], []⟩
theorem ir3 : cSs 60 (t3.cc ["thing", "letter"] (top 21) [] [] none) (fnBd (top 21)) = ir_is_name := by kernel_rfl
theorem k3 (KX : K.In h) (G : h.Ns mainGlobals mg) (c : SaysM fa fn ex K) : Kn (Tk K) Γt P w mg base 1 (He.fAd K ("is_name", none)) 3 [] := by
  obtain ⟨fd, F⟩ := c.d.def_ 11 (d := d3) rfl
  exact kn_of (T := Tk K) (Γ := Γt) (t := t3) (N := ["thing", "letter"]) (ps := ["thing"]) (x := "is_name") (qual := "is_name") (st := (top 21)) (L := 0) (n := 60) F sc3 (env0 KX G c) ir3 (fun _ _ _ _ _ _ us hl => match us, hl with | [_], _ => rfl) ar3
    (fun p hp => by cases hp)
    (fun p hp => by cases hp)
    (fun p hp => by cases hp)
    (fun p hp => by cases hp)
    (fun p hp => by cases hp)
    (fun ss Q E h => ok_is_name (Γ := Γt)  h)
/-! 5 widened, level 1 -/
theorem sc5 : FnScope ["fields", "gaps", "limit", "before", "after", "ways", "low", "high", "gap", "name", "one", "other", "pair"] ["fields", "gaps", "limit"] (fnSc (top 24)) := ⟨rfl, rfl, rfl, by decide +kernel, rfl, by decide +kernel, by decide +kernel⟩
theorem ar5 : Ar 3 (Γt 5) := by
  intro ss Q E h
  have h : sp_widened ss Q E := h
  unfold sp_widened at h
  first | (obtain ⟨rfl, _⟩ := h; rfl) | (obtain ⟨_, rfl, _⟩ := h; rfl) | (obtain ⟨_, _, rfl, _⟩ := h; rfl) | (obtain ⟨_, _, _, rfl, _⟩ := h; rfl) | (obtain ⟨_, _, _, _, rfl, _⟩ := h; rfl) | (obtain ⟨_, _, _, _, _, rfl, _⟩ := h; rfl) | (obtain ⟨_, _, _, _, _, _, rfl, _⟩ := h; rfl) | (obtain ⟨_, _, _, _, _, _, _, rfl, _⟩ := h; rfl) | (obtain ⟨_, _, _, _, _, _, _, _, rfl, _⟩ := h; rfl) | (obtain ⟨_, _, _, _, _, _, _, _, _, rfl, _⟩ := h; rfl)
def t5 : Tab := ⟨[], [], [], conL, clsL, naT, ["pair", "gaps", "ways"], [("Order", 0)], [], []⟩
theorem ir5 : cSs 60 (t5.cc ["fields", "gaps", "limit", "before", "after", "ways", "low", "high", "gap", "name", "one", "other", "pair"] (top 24) [] [] none) (fnBd (top 24)) = ir_widened := by kernel_rfl
theorem k5 (KX : K.In h) (G : h.Ns mainGlobals mg) (c : SaysM fa fn ex K) : Kn (Tk K) Γt P w mg base 1 (He.fAd K ("widened", none)) 5 [] := by
  obtain ⟨fd, F⟩ := c.d.def_ 12 (d := d5) rfl
  exact kn_of (T := Tk K) (Γ := Γt) (t := t5) (N := ["fields", "gaps", "limit", "before", "after", "ways", "low", "high", "gap", "name", "one", "other", "pair"]) (ps := ["fields", "gaps", "limit"]) (x := "widened") (qual := "widened") (st := (top 24)) (L := 0) (n := 60) F sc5 (env0 KX G c) ir5 (fun _ _ _ _ _ _ us hl => match us, hl with | [_, _, _], _ => rfl) ar5
    (fun p hp => by cases hp)
    (fun p hp => by cases hp)
    (fun p hp => by cases hp)
    (fun p hp => by cases hp)
    (fun p hp => by cases hp)
    (fun ss Q E h => ok_widened (Γ := Γt)  h)
/-! 6 closes_ring, level 1 -/
theorem sc6 : FnScope ["fields", "gaps", "limit", "low", "high", "gap"] ["fields", "gaps", "limit"] (fnSc (top 25)) := ⟨rfl, rfl, rfl, by decide +kernel, rfl, by decide +kernel, by decide +kernel⟩
theorem ar6 : Ar 3 (Γt 6) := by
  intro ss Q E h
  have h : sp_closes ss Q E := h
  unfold sp_closes at h
  first | (obtain ⟨rfl, _⟩ := h; rfl) | (obtain ⟨_, rfl, _⟩ := h; rfl) | (obtain ⟨_, _, rfl, _⟩ := h; rfl) | (obtain ⟨_, _, _, rfl, _⟩ := h; rfl) | (obtain ⟨_, _, _, _, rfl, _⟩ := h; rfl) | (obtain ⟨_, _, _, _, _, rfl, _⟩ := h; rfl) | (obtain ⟨_, _, _, _, _, _, rfl, _⟩ := h; rfl) | (obtain ⟨_, _, _, _, _, _, _, rfl, _⟩ := h; rfl) | (obtain ⟨_, _, _, _, _, _, _, _, rfl, _⟩ := h; rfl) | (obtain ⟨_, _, _, _, _, _, _, _, _, rfl, _⟩ := h; rfl)
def t6 : Tab := ⟨[], [], [], conL, clsL, naT, ["pair", "gaps", "ways"], [("Order", 0)], [], []⟩
theorem ir6 : cSs 60 (t6.cc ["fields", "gaps", "limit", "low", "high", "gap"] (top 25) [] [] none) (fnBd (top 25)) = ir_closes_ring := by kernel_rfl
theorem k6 (KX : K.In h) (G : h.Ns mainGlobals mg) (c : SaysM fa fn ex K) : Kn (Tk K) Γt P w mg base 1 (He.fAd K ("closes_ring", none)) 6 [] := by
  obtain ⟨fd, F⟩ := c.d.def_ 13 (d := d6) rfl
  exact kn_of (T := Tk K) (Γ := Γt) (t := t6) (N := ["fields", "gaps", "limit", "low", "high", "gap"]) (ps := ["fields", "gaps", "limit"]) (x := "closes_ring") (qual := "closes_ring") (st := (top 25)) (L := 0) (n := 60) F sc6 (env0 KX G c) ir6 (fun _ _ _ _ _ _ us hl => match us, hl with | [_, _, _], _ => rfl) ar6
    (fun p hp => by cases hp)
    (fun p hp => by cases hp)
    (fun p hp => by cases hp)
    (fun p hp => by cases hp)
    (fun p hp => by cases hp)
    (fun ss Q E h => ok_closes (Γ := Γt)  h)
/-! 7 gaps_of, level 2 -/
theorem sc7 : FnScope ["fields", "limits", "gaps", "at", "limit"] ["fields", "limits"] (fnSc (top 26)) := ⟨rfl, rfl, rfl, by decide +kernel, rfl, by decide +kernel, by decide +kernel⟩
theorem ar7 : Ar 2 (Γt 7) := by
  intro ss Q E h
  have h : sp_gaps_of ss Q E := h
  unfold sp_gaps_of at h
  first | (obtain ⟨rfl, _⟩ := h; rfl) | (obtain ⟨_, rfl, _⟩ := h; rfl) | (obtain ⟨_, _, rfl, _⟩ := h; rfl) | (obtain ⟨_, _, _, rfl, _⟩ := h; rfl) | (obtain ⟨_, _, _, _, rfl, _⟩ := h; rfl) | (obtain ⟨_, _, _, _, _, rfl, _⟩ := h; rfl) | (obtain ⟨_, _, _, _, _, _, rfl, _⟩ := h; rfl) | (obtain ⟨_, _, _, _, _, _, _, rfl, _⟩ := h; rfl) | (obtain ⟨_, _, _, _, _, _, _, _, rfl, _⟩ := h; rfl) | (obtain ⟨_, _, _, _, _, _, _, _, _, rfl, _⟩ := h; rfl)
def t7 : Tab := ⟨[(("closes_ring", 3), 6, []), (("widened", 3), 5, [])], [], [], conL, clsL, naT, ["pair", "gaps", "ways"], [("Order", 0)], [], []⟩
theorem ir7 : cSs 60 (t7.cc ["fields", "limits", "gaps", "at", "limit"] (top 26) [] [] none) (fnBd (top 26)) = ir_gaps_of := by kernel_rfl
theorem k7 (KX : K.In h) (G : h.Ns mainGlobals mg) (c : SaysM fa fn ex K) : Kn (Tk K) Γt P w mg base 2 (He.fAd K ("gaps_of", none)) 7 [] := by
  obtain ⟨fd, F⟩ := c.d.def_ 14 (d := d7) rfl
  exact kn_of (T := Tk K) (Γ := Γt) (t := t7) (N := ["fields", "limits", "gaps", "at", "limit"]) (ps := ["fields", "limits"]) (x := "gaps_of") (qual := "gaps_of") (st := (top 26)) (L := 1) (n := 60) F sc7 (env0 KX G c) ir7 (fun _ _ _ _ _ _ us hl => match us, hl with | [_, _], _ => rfl) ar7
    (fun p hp => by
    rcases List.mem_cons.mp hp with rfl | hp
    · exact ⟨1, _, by decide, He.glo_ok KX G (c.d.fact 11 (f := .glo "closes_ring") rfl), (let ⟨_, F⟩ := c.d.def_ 13 (d := d6) rfl; F.kp), k6 KX G c⟩
    rcases List.mem_cons.mp hp with rfl | hp
    · exact ⟨1, _, by decide, He.glo_ok KX G (c.d.fact 10 (f := .glo "widened") rfl), (let ⟨_, F⟩ := c.d.def_ 12 (d := d5) rfl; F.kp), k5 KX G c⟩
    cases hp)
    (fun p hp => by cases hp)
    (fun p hp => by cases hp)
    (fun p hp => by cases hp)
    (fun p hp => by cases hp)
    (fun ss Q E h => ok_gaps_of (Γ := Γt) rfl rfl h)
/-! 100 Order.__init__, level 3 -/
theorem sc100 : FnScope ["self", "fields", "limits", "names", "at", "name", "low", "high"] ["self", "fields", "limits"] (fnSc (sub 27 0)) := ⟨rfl, rfl, rfl, by decide +kernel, rfl, by decide +kernel, by decide +kernel⟩
theorem ar100 : Ar 3 (Γt 100) := by
  intro ss Q E h
  have h : sp_init ss Q E := h
  unfold sp_init at h
  first | (obtain ⟨rfl, _⟩ := h; rfl) | (obtain ⟨_, rfl, _⟩ := h; rfl) | (obtain ⟨_, _, rfl, _⟩ := h; rfl) | (obtain ⟨_, _, _, rfl, _⟩ := h; rfl) | (obtain ⟨_, _, _, _, rfl, _⟩ := h; rfl) | (obtain ⟨_, _, _, _, _, rfl, _⟩ := h; rfl) | (obtain ⟨_, _, _, _, _, _, rfl, _⟩ := h; rfl) | (obtain ⟨_, _, _, _, _, _, _, rfl, _⟩ := h; rfl) | (obtain ⟨_, _, _, _, _, _, _, _, rfl, _⟩ := h; rfl) | (obtain ⟨_, _, _, _, _, _, _, _, _, rfl, _⟩ := h; rfl)
def t100 : Tab := ⟨[(("gaps_of", 2), 7, []), (("is_name", 1), 3, [])], [], [], conL, clsL, naT, ["pair", "gaps", "ways"], [("Order", 0)], [], []⟩
theorem ir100 : cSs 60 (t100.cc ["self", "fields", "limits", "names", "at", "name", "low", "high"] (sub 27 0) [0] [0] (some 0)) (fnBd (sub 27 0)) = ir_Order_init := by kernel_rfl
theorem g100 (KX : K.In h) (G : h.Ns mainGlobals mg) (c : SaysM fa fn ex K) : ∃ fd, FunD (Tk K).K "__init__" "Order.__init__" (fnArgs (sub 27 0)) (fnBd (sub 27 0)) (fnSc (sub 27 0)) ((d100).dvs K) ((d100).kws K) (He.fAd K ("Order", some "__init__")) fd ∧ FnOk P w (Tk K).K mg base (L2.CX P w) 3 (He.fAd K ("Order", some "__init__")) fd ["self", "fields", "limits"] (spF (Tk K) 3 (Γt 100)) := by
  obtain ⟨fd, F⟩ := c.d.def_ 15 (d := d100) rfl
  refine ⟨fd, F, ?_⟩
  exact kn_ofD (T := Tk K) (Γ := Γt) (t := t100) (N := ["self", "fields", "limits", "names", "at", "name", "low", "high"]) (ps := ["self", "fields", "limits"]) (x := "__init__") (qual := "Order.__init__") (st := (sub 27 0)) (L := 2) (n := 60) F sc100 (env0 KX G c) ir100
    (fun p hp => by
    rcases List.mem_cons.mp hp with rfl | hp
    · exact ⟨2, _, by decide, He.glo_ok KX G (c.d.fact 12 (f := .glo "gaps_of") rfl), (let ⟨_, F⟩ := c.d.def_ 14 (d := d7) rfl; F.kp), k7 KX G c⟩
    rcases List.mem_cons.mp hp with rfl | hp
    · exact ⟨1, _, by decide, He.glo_ok KX G (c.d.fact 8 (f := .glo "is_name") rfl), (let ⟨_, F⟩ := c.d.def_ 11 (d := d3) rfl; F.kp), k3 KX G c⟩
    cases hp)
    (fun p hp => by cases hp)
    (fun p hp => by cases hp)
    (fun p hp => by cases hp)
    (fun p hp => by cases hp)
    (fun ss Q E h => ok_init (Γ := Γt) rfl rfl h)
theorem k100 (KX : K.In h) (G : h.Ns mainGlobals mg) (c : SaysM fa fn ex K) : Kn (Tk K) Γt P w mg base 3 (He.fAd K ("Order", some "__init__")) 100 [] := by
  obtain ⟨fd, F, ok⟩ := g100 (P := P) (w := w) (base := base) KX G c
  obtain ⟨dsv, hv, hb⟩ := F.binds1 (ps := ["self", "fields", "limits"]) 3 1 (fun z => by cases z) rfl (fun _ _ _ _ _ _ _ us its h1 h2 => match us, its, h1, h2 with | [_, _, _], [_], _, _ => ⟨_, rfl, rfl⟩)
  exact ⟨fd, ["self", "fields", "limits"], dsv, [], ok, hb, hv, fun _ => rfl, ar100⟩
theorem k100d (KX : K.In h) (G : h.Ns mainGlobals mg) (c : SaysM fa fn ex K) : Kn (Tk K) Γt P w mg base 3 (He.fAd K ("Order", some "__init__")) 100 [.tup []] := by
  obtain ⟨fd, F, ok⟩ := g100 (P := P) (w := w) (base := base) KX G c
  obtain ⟨dsv, hv, hb⟩ := F.binds1 (ps := ["self", "fields", "limits"]) 2 0 (fun z => by cases z) rfl (fun _ _ _ _ _ _ _ us its h1 h2 => match us, its, h1, h2 with | [_, _], [_], _, _ => ⟨_, rfl, rfl⟩)
  exact ⟨fd, ["self", "fields", "limits"], dsv, _, ok, hb, hv, fun _ => ⟨_, _, rfl, etuX_ok (T := Tk K) (exs c).2.2.2.2.2.2.2.2.2 _, rfl⟩, ar100⟩
/-! 300 _law_begun, level 1 -/
theorem sc300 : FnScope ["_law_script", "_law_cells", "_law_cell"] ["_law_script"] (fnSc (top 29)) := ⟨rfl, rfl, rfl, by decide +kernel, rfl, by decide +kernel, by decide +kernel⟩
theorem ar300 : Ar 1 (Γt 300) := by
  intro ss Q E h
  have h : sp_begun ss Q E := h
  unfold sp_begun at h
  first | (obtain ⟨rfl, _⟩ := h; rfl) | (obtain ⟨_, rfl, _⟩ := h; rfl) | (obtain ⟨_, _, rfl, _⟩ := h; rfl) | (obtain ⟨_, _, _, rfl, _⟩ := h; rfl) | (obtain ⟨_, _, _, _, rfl, _⟩ := h; rfl) | (obtain ⟨_, _, _, _, _, rfl, _⟩ := h; rfl) | (obtain ⟨_, _, _, _, _, _, rfl, _⟩ := h; rfl) | (obtain ⟨_, _, _, _, _, _, _, rfl, _⟩ := h; rfl) | (obtain ⟨_, _, _, _, _, _, _, _, rfl, _⟩ := h; rfl) | (obtain ⟨_, _, _, _, _, _, _, _, _, rfl, _⟩ := h; rfl)
def t300 : Tab := ⟨[], [], [], conL, clsL, naT, ["pair", "gaps", "ways"], [("Order", 0)], [], []⟩
theorem ir300 : cSs 60 (t300.cc ["_law_script", "_law_cells", "_law_cell"] (top 29) [1] [] none) (fnBd (top 29)) = ir_law_begun := by kernel_rfl
theorem k300 (KX : K.In h) (G : h.Ns mainGlobals mg) (c : SaysM fa fn ex K) : Kn (Tk K) Γt P w mg base 1 (He.fAd K ("_law_begun", none)) 300 [] := by
  obtain ⟨fd, F⟩ := c.d.def_ 16 (d := d300) rfl
  exact kn_of (T := Tk K) (Γ := Γt) (t := t300) (N := ["_law_script", "_law_cells", "_law_cell"]) (ps := ["_law_script"]) (x := "_law_begun") (qual := "_law_begun") (st := (top 29)) (L := 0) (n := 60) F sc300 (env0 KX G c) ir300 (fun _ _ _ _ _ _ us hl => match us, hl with | [_], _ => rfl) ar300
    (fun p hp => by cases hp)
    (fun p hp => by cases hp)
    (fun p hp => by cases hp)
    (fun p hp => by cases hp)
    (fun p hp => by cases hp)
    (fun ss Q E h => ok_begun (Γ := Γt)  h)
/-! 301 _law_take, level 1 -/
theorem sc301 : FnScope ["_law_draw", "_law_many", "_law_cell", "_law_mixed", "_law_found"] ["_law_draw", "_law_many"] (fnSc (top 30)) := ⟨rfl, rfl, rfl, by decide +kernel, rfl, by decide +kernel, by decide +kernel⟩
theorem ar301 : Ar 2 (Γt 301) := by
  intro ss Q E h
  have h : sp_take ss Q E := h
  unfold sp_take at h
  first | (obtain ⟨rfl, _⟩ := h; rfl) | (obtain ⟨_, rfl, _⟩ := h; rfl) | (obtain ⟨_, _, rfl, _⟩ := h; rfl) | (obtain ⟨_, _, _, rfl, _⟩ := h; rfl) | (obtain ⟨_, _, _, _, rfl, _⟩ := h; rfl) | (obtain ⟨_, _, _, _, _, rfl, _⟩ := h; rfl) | (obtain ⟨_, _, _, _, _, _, rfl, _⟩ := h; rfl) | (obtain ⟨_, _, _, _, _, _, _, rfl, _⟩ := h; rfl) | (obtain ⟨_, _, _, _, _, _, _, _, rfl, _⟩ := h; rfl) | (obtain ⟨_, _, _, _, _, _, _, _, _, rfl, _⟩ := h; rfl)
theorem take_pss {X : Cx} {T : Tx} (hK : X.K = T.K) (hu : X.A.units + 65 < cLine) (hN : X.N = ([("_law_draw" : Str), "_law_many", "_law_cell", "_law_mixed", "_law_found"] : List Str)) (hsc : X.env.scope = fnSc (top 30)) (hp : PassesOwn (model X.prog X.w) X.A X.env X.xe) (hmi : X.mg "int" = none) (hml : X.mg "len" = none) : PSs X (fnBd (top 30)) takeT := by
  have nd : X.N.Nodup := by rw [hN]; decide +kernel
  have g0 : X.N[0]? = some ("_law_draw" : Str) := by rw [hN]; rfl
  have w0 : Vis X.env.scope "_law_draw" := by rw [hsc]; exact .inl rfl
  have get : ∀ {k : Str} {j px pk pos}, PE X (.Subscript (.Name "_law_draw" px) (.Constant (.str k) j pk) pos) (tIV (fGet k)) := fun {k j px pk pos} => iv_get hu g0 w0 (by decide) (by decide)
  have gi : Gl X "int" := by show X.env.scope.names.lookup _ = _; rw [hsc]; rfl
  have gl : Gl X "len" := by show X.env.scope.names.lookup _ = _; rw [hsc]; rfl
  have v1 : ∀ {pos}, PE X (.Name "_law_many" pos) (tIV (fVar 1)) := fun {pos} => iv_var (by rw [hN]; rfl) (by rw [hsc]; exact .inl rfl) (by decide) (by decide)
  have v2 : ∀ {pos}, PE X (.Name "_law_cell" pos) (tIV (fVar 2)) := fun {pos} => iv_var (by rw [hN]; rfl) (by rw [hsc]; exact .inl rfl) (by decide) (by decide)
  have v3 : ∀ {pos}, PE X (.Name "_law_mixed" pos) (tIV (fVar 3)) := fun {pos} => iv_var (by rw [hN]; rfl) (by rw [hsc]; exact .inl rfl) (by decide) (by decide)
  have v4 : ∀ {pos}, PE X (.Name "_law_found" pos) (tIV (fVar 4)) := fun {pos} => iv_var (by rw [hN]; rfl) (by rw [hsc]; exact .inl rfl) (by decide) (by decide)
  have l2 : X.env.scope.names.lookup ("_law_cell" : Str) = some .local := by rw [hsc]; rfl
  have l3 : X.env.scope.names.lookup ("_law_mixed" : Str) = some .local := by rw [hsc]; rfl
  have l4 : X.env.scope.names.lookup ("_law_found" : Str) = some .local := by rw [hsc]; rfl
  have n2 : X.N[2]? = some ("_law_cell" : Str) := by rw [hN]; rfl
  have n3 : X.N[3]? = some ("_law_mixed" : Str) := by rw [hN]; rfl
  have n4 : X.N[4]? = some ("_law_found" : Str) := by rw [hN]; rfl
  exact pss_cons (ps_while hp (PW.pt (pw_and (pt_cmpR op_eq get iv_con rfl) (pw_and1 (pt_ne hK hu g0 w0 (by decide) (by decide))))) (pss_one (ps_put hu g0 w0 (by decide) (by decide) (pe_pop hu g0 w0 (by decide) (by decide) rfl) rfl)))
    (pss_cons (ps_if (pt_cmpR op_gt get iv_con rfl) (pss_cons (ps_set nd n4 (.inl l4) (iv_mod (iv_int gi hmi get rfl) v1) rfl (.inr l4)) (pss_cons (ps_put hu g0 w0 (by decide) (by decide) (iv_div get v1) rfl) (pss_one (ps_ret v4)))) pss_nil)
    (pss_cons (ps_set nd n2 (.inl l2) iv_con rfl (.inr l2))
    (pss_cons (ps_if (pt_ne hK hu g0 w0 (by decide) (by decide)) (pss_one (ps_set nd n2 (.inl l2) (iv_at hK hu g0 w0 (by decide) (by decide) (iv_mod get (iv_len hu gl hml g0 w0 (by decide) (by decide))) rfl) rfl (.inr l2))) pss_nil)
    (pss_cons (ps_put hu g0 w0 (by decide) (by decide) (iv_add get iv_con) rfl)
    (pss_cons (ps_put hu g0 w0 (by decide) (by decide) (iv_mod (iv_int gi hmi (iv_add (iv_add (iv_mul get iv_con) v2) (iv_mul iv_con get)) rfl) iv_con) rfl)
    (pss_cons (ps_set nd n3 (.inl l3) (iv_mod (iv_int gi hmi (iv_add (iv_add (iv_mul get get) (iv_mul iv_con get)) iv_con) rfl) iv_con) rfl (.inr l3))
    (pss_one (ps_ret (iv_mod (iv_int gi hmi (iv_div (iv_mod (iv_int gi hmi (iv_mul v3 v3) rfl) iv_con) iv_con) rfl) v1)))))))))

theorem k301 (KX : K.In h) (G : h.Ns mainGlobals mg) (c : SaysM fa fn ex K) : Kn (Tk K) Γt P w mg base 1 (He.fAd K ("_law_take", none)) 301 [] := by
  obtain ⟨fd, F⟩ := c.d.def_ 17 (d := d301) rfl
  have F : FunD (Tk K).K "_law_take" "_law_take" (fnArgs (top 30)) (fnBd (top 30)) (fnSc (top 30)) [] [] (He.fAd K ("_law_take", none)) fd := F
  refine ⟨fd, ["_law_draw", "_law_many"], [], [], ?_, F.bindsN (fun _ _ _ _ _ _ us hl => match us, hl with | [_, _], _ => rfl), .nil, fun _ => rfl, ar301⟩
  refine take_keeps (T := Tk K) (lim := lim9) (k := 0) F rfl sc301 (by decide +kernel) fun cdv A outer s H E hr => ?_
  have hu : (A.deeper (envOfC "_law_take" (fnSc (top 30)) s.heap.objs.size (He.fAd K ("_law_take", none)) cdv)).units + 65 < cLine := by have := hr.un; omega
  exact take_pss (T := Tk K) rfl hu rfl rfl (passes_of rfl) (He.free_ok KX G (c.d.fact 37 (f := .free "int") rfl)) (He.free_ok KX G (c.d.fact 33 (f := .free "len") rfl))
/-! 302 _law_pick, level 2 -/
theorem sc302 : FnScope ["_law_draw", "_law_some"] ["_law_draw", "_law_some"] (fnSc (top 31)) := ⟨rfl, rfl, rfl, by decide +kernel, rfl, by decide +kernel, by decide +kernel⟩
theorem ar302 : Ar 2 (Γt 302) := by
  intro ss Q E h
  have h : sp_pick ss Q E := h
  unfold sp_pick at h
  first | (obtain ⟨rfl, _⟩ := h; rfl) | (obtain ⟨_, rfl, _⟩ := h; rfl) | (obtain ⟨_, _, rfl, _⟩ := h; rfl) | (obtain ⟨_, _, _, rfl, _⟩ := h; rfl) | (obtain ⟨_, _, _, _, rfl, _⟩ := h; rfl) | (obtain ⟨_, _, _, _, _, rfl, _⟩ := h; rfl) | (obtain ⟨_, _, _, _, _, _, rfl, _⟩ := h; rfl) | (obtain ⟨_, _, _, _, _, _, _, rfl, _⟩ := h; rfl) | (obtain ⟨_, _, _, _, _, _, _, _, rfl, _⟩ := h; rfl) | (obtain ⟨_, _, _, _, _, _, _, _, _, rfl, _⟩ := h; rfl)
def t302 : Tab := ⟨[(("_law_take", 2), 301, [])], [], [], conL, clsL, naT, ["pair", "gaps", "ways"], [("Order", 0)], [], []⟩
theorem ir302 : cSs 60 (t302.cc ["_law_draw", "_law_some"] (top 31) [0] [0] none) (fnBd (top 31)) = ir_law_pick := by kernel_rfl
theorem k302 (KX : K.In h) (G : h.Ns mainGlobals mg) (c : SaysM fa fn ex K) : Kn (Tk K) Γt P w mg base 2 (He.fAd K ("_law_pick", none)) 302 [] := by
  obtain ⟨fd, F⟩ := c.d.def_ 18 (d := d302) rfl
  exact kn_of (T := Tk K) (Γ := Γt) (t := t302) (N := ["_law_draw", "_law_some"]) (ps := ["_law_draw", "_law_some"]) (x := "_law_pick") (qual := "_law_pick") (st := (top 31)) (L := 1) (n := 60) F sc302 (env0 KX G c) ir302 (fun _ _ _ _ _ _ us hl => match us, hl with | [_, _], _ => rfl) ar302
    (fun p hp => by
    rcases List.mem_cons.mp hp with rfl | hp
    · exact ⟨1, _, by decide, He.glo_ok KX G (c.d.fact 14 (f := .glo "_law_take") rfl), (let ⟨_, F⟩ := c.d.def_ 17 (d := d301) rfl; F.kp), k301 KX G c⟩
    cases hp)
    (fun p hp => by cases hp)
    (fun p hp => by cases hp)
    (fun p hp => by cases hp)
    (fun p hp => by cases hp)
    (fun ss Q E h => ok_pick (Γ := Γt) rfl h)
/-! 303 _law_value, level 3 -/
theorem sc303 : FnScope ["_law_draw", "_law_found", "_law_size", "_law_sign"] ["_law_draw"] (fnSc (top 32)) := ⟨rfl, rfl, rfl, by decide +kernel, rfl, by decide +kernel, by decide +kernel⟩
theorem ar303 : Ar 1 (Γt 303) := by
  intro ss Q E h
  have h : sp_value ss Q E := h
  unfold sp_value at h
  first | (obtain ⟨rfl, _⟩ := h; rfl) | (obtain ⟨_, rfl, _⟩ := h; rfl) | (obtain ⟨_, _, rfl, _⟩ := h; rfl) | (obtain ⟨_, _, _, rfl, _⟩ := h; rfl) | (obtain ⟨_, _, _, _, rfl, _⟩ := h; rfl) | (obtain ⟨_, _, _, _, _, rfl, _⟩ := h; rfl) | (obtain ⟨_, _, _, _, _, _, rfl, _⟩ := h; rfl) | (obtain ⟨_, _, _, _, _, _, _, rfl, _⟩ := h; rfl) | (obtain ⟨_, _, _, _, _, _, _, _, rfl, _⟩ := h; rfl) | (obtain ⟨_, _, _, _, _, _, _, _, _, rfl, _⟩ := h; rfl)
def t303 : Tab := ⟨[(("_law_take", 2), 301, []), (("_law_pick", 2), 302, [])], [], [], conL, clsL, naT, ["pair", "gaps", "ways"], [("Order", 0)], [], []⟩
theorem ir303 : cSs 60 (t303.cc ["_law_draw", "_law_found", "_law_size", "_law_sign"] (top 32) [0] [0] none) (fnBd (top 32)) = ir_law_value := by kernel_rfl
theorem k303 (KX : K.In h) (G : h.Ns mainGlobals mg) (c : SaysM fa fn ex K) : Kn (Tk K) Γt P w mg base 3 (He.fAd K ("_law_value", none)) 303 [] := by
  obtain ⟨fd, F⟩ := c.d.def_ 19 (d := d303) rfl
  exact kn_of (T := Tk K) (Γ := Γt) (t := t303) (N := ["_law_draw", "_law_found", "_law_size", "_law_sign"]) (ps := ["_law_draw"]) (x := "_law_value") (qual := "_law_value") (st := (top 32)) (L := 2) (n := 60) F sc303 (env0 KX G c) ir303 (fun _ _ _ _ _ _ us hl => match us, hl with | [_], _ => rfl) ar303
    (fun p hp => by
    rcases List.mem_cons.mp hp with rfl | hp
    · exact ⟨1, _, by decide, He.glo_ok KX G (c.d.fact 14 (f := .glo "_law_take") rfl), (let ⟨_, F⟩ := c.d.def_ 17 (d := d301) rfl; F.kp), k301 KX G c⟩
    rcases List.mem_cons.mp hp with rfl | hp
    · exact ⟨2, _, by decide, He.glo_ok KX G (c.d.fact 15 (f := .glo "_law_pick") rfl), (let ⟨_, F⟩ := c.d.def_ 18 (d := d302) rfl; F.kp), k302 KX G c⟩
    cases hp)
    (fun p hp => by cases hp)
    (fun p hp => by cases hp)
    (fun p hp => by cases hp)
    (fun p hp => by cases hp)
    (fun ss Q E h => ok_value (Γ := Γt) rfl rfl h)
/-! 304 _law_names, level 3 -/
theorem sc304 : FnScope ["_law_draw", "_law_many", "_law_found", "_law_k", "_law_long", "_law_word", "_law_spare", "_law_turn", "_law_letter", "_law_name"] ["_law_draw", "_law_many"] (fnSc (top 33)) := ⟨rfl, rfl, rfl, by decide +kernel, rfl, by decide +kernel, by decide +kernel⟩
theorem ar304 : Ar 2 (Γt 304) := by
  intro ss Q E h
  have h : sp_names ss Q E := h
  unfold sp_names at h
  first | (obtain ⟨rfl, _⟩ := h; rfl) | (obtain ⟨_, rfl, _⟩ := h; rfl) | (obtain ⟨_, _, rfl, _⟩ := h; rfl) | (obtain ⟨_, _, _, rfl, _⟩ := h; rfl) | (obtain ⟨_, _, _, _, rfl, _⟩ := h; rfl) | (obtain ⟨_, _, _, _, _, rfl, _⟩ := h; rfl) | (obtain ⟨_, _, _, _, _, _, rfl, _⟩ := h; rfl) | (obtain ⟨_, _, _, _, _, _, _, rfl, _⟩ := h; rfl) | (obtain ⟨_, _, _, _, _, _, _, _, rfl, _⟩ := h; rfl) | (obtain ⟨_, _, _, _, _, _, _, _, _, rfl, _⟩ := h; rfl)
def t304 : Tab := ⟨[(("_law_take", 2), 301, []), (("_law_pick", 2), 302, [])], [], [], conL, clsL, naT, ["pair", "gaps", "ways"], [("Order", 0)], [], []⟩
theorem ir304 : cSs 60 (t304.cc ["_law_draw", "_law_many", "_law_found", "_law_k", "_law_long", "_law_word", "_law_spare", "_law_turn", "_law_letter", "_law_name"] (top 33) [0, 2] [0] none) (fnBd (top 33)) = ir_law_names := by kernel_rfl
theorem k304 (KX : K.In h) (G : h.Ns mainGlobals mg) (c : SaysM fa fn ex K) : Kn (Tk K) Γt P w mg base 3 (He.fAd K ("_law_names", none)) 304 [] := by
  obtain ⟨fd, F⟩ := c.d.def_ 20 (d := d304) rfl
  exact kn_of (T := Tk K) (Γ := Γt) (t := t304) (N := ["_law_draw", "_law_many", "_law_found", "_law_k", "_law_long", "_law_word", "_law_spare", "_law_turn", "_law_letter", "_law_name"]) (ps := ["_law_draw", "_law_many"]) (x := "_law_names") (qual := "_law_names") (st := (top 33)) (L := 2) (n := 60) F sc304 (env0 KX G c) ir304 (fun _ _ _ _ _ _ us hl => match us, hl with | [_, _], _ => rfl) ar304
    (fun p hp => by
    rcases List.mem_cons.mp hp with rfl | hp
    · exact ⟨1, _, by decide, He.glo_ok KX G (c.d.fact 14 (f := .glo "_law_take") rfl), (let ⟨_, F⟩ := c.d.def_ 17 (d := d301) rfl; F.kp), k301 KX G c⟩
    rcases List.mem_cons.mp hp with rfl | hp
    · exact ⟨2, _, by decide, He.glo_ok KX G (c.d.fact 15 (f := .glo "_law_pick") rfl), (let ⟨_, F⟩ := c.d.def_ 18 (d := d302) rfl; F.kp), k302 KX G c⟩
    cases hp)
    (fun p hp => by cases hp)
    (fun p hp => by cases hp)
    (fun p hp => by cases hp)
    (fun p hp => by cases hp)
    (fun ss Q E h => ok_names (Γ := Γt) rfl rfl h)
/-! 305 _law_order, level 4 -/
theorem sc305 : FnScope ["_law_draw", "_law_least", "_law_most", "_law_limits", "_law_fields", "_law_line", "_law_name", "_law_found", "_law_k", "_law_low", "_law_high"] ["_law_draw", "_law_least", "_law_most", "_law_limits"] (fnSc (top 34)) := ⟨rfl, rfl, rfl, by decide +kernel, rfl, by decide +kernel, by decide +kernel⟩
theorem ar305 : Ar 4 (Γt 305) := by
  intro ss Q E h
  have h : sp_order ss Q E := h
  unfold sp_order at h
  first | (obtain ⟨rfl, _⟩ := h; rfl) | (obtain ⟨_, rfl, _⟩ := h; rfl) | (obtain ⟨_, _, rfl, _⟩ := h; rfl) | (obtain ⟨_, _, _, rfl, _⟩ := h; rfl) | (obtain ⟨_, _, _, _, rfl, _⟩ := h; rfl) | (obtain ⟨_, _, _, _, _, rfl, _⟩ := h; rfl) | (obtain ⟨_, _, _, _, _, _, rfl, _⟩ := h; rfl) | (obtain ⟨_, _, _, _, _, _, _, rfl, _⟩ := h; rfl) | (obtain ⟨_, _, _, _, _, _, _, _, rfl, _⟩ := h; rfl) | (obtain ⟨_, _, _, _, _, _, _, _, _, rfl, _⟩ := h; rfl)
def t305 : Tab := ⟨[(("_law_names", 2), 304, []), (("_law_take", 2), 301, []), (("_law_pick", 2), 302, [])], [], [], conL, clsL, naT, ["pair", "gaps", "ways"], [("Order", 0)], [], []⟩
theorem ir305 : cSs 60 (t305.cc ["_law_draw", "_law_least", "_law_most", "_law_limits", "_law_fields", "_law_line", "_law_name", "_law_found", "_law_k", "_law_low", "_law_high"] (top 34) [0, 5, 7] [0] none) (fnBd (top 34)) = ir_law_order := by kernel_rfl
theorem k305 (KX : K.In h) (G : h.Ns mainGlobals mg) (c : SaysM fa fn ex K) : Kn (Tk K) Γt P w mg base 4 (He.fAd K ("_law_order", none)) 305 [] := by
  obtain ⟨fd, F⟩ := c.d.def_ 21 (d := d305) rfl
  exact kn_of (T := Tk K) (Γ := Γt) (t := t305) (N := ["_law_draw", "_law_least", "_law_most", "_law_limits", "_law_fields", "_law_line", "_law_name", "_law_found", "_law_k", "_law_low", "_law_high"]) (ps := ["_law_draw", "_law_least", "_law_most", "_law_limits"]) (x := "_law_order") (qual := "_law_order") (st := (top 34)) (L := 3) (n := 60) F sc305 (env0 KX G c) ir305 (fun _ _ _ _ _ _ us hl => match us, hl with | [_, _, _, _], _ => rfl) ar305
    (fun p hp => by
    rcases List.mem_cons.mp hp with rfl | hp
    · exact ⟨3, _, by decide, He.glo_ok KX G (c.d.fact 17 (f := .glo "_law_names") rfl), (let ⟨_, F⟩ := c.d.def_ 20 (d := d304) rfl; F.kp), k304 KX G c⟩
    rcases List.mem_cons.mp hp with rfl | hp
    · exact ⟨1, _, by decide, He.glo_ok KX G (c.d.fact 14 (f := .glo "_law_take") rfl), (let ⟨_, F⟩ := c.d.def_ 17 (d := d301) rfl; F.kp), k301 KX G c⟩
    rcases List.mem_cons.mp hp with rfl | hp
    · exact ⟨2, _, by decide, He.glo_ok KX G (c.d.fact 15 (f := .glo "_law_pick") rfl), (let ⟨_, F⟩ := c.d.def_ 18 (d := d302) rfl; F.kp), k302 KX G c⟩
    cases hp)
    (fun p hp => by cases hp)
    (fun p hp => by cases hp)
    (fun p hp => by cases hp)
    (fun p hp => by cases hp)
    (fun ss Q E h => ok_order (Γ := Γt) rfl rfl rfl h)
/-! 309 _law_up, level 1 -/
theorem sc309 : FnScope ["_law_house", "_law_values", "_law_found", "_law_name", "_law_edges", "_law_low", "_law_high", "_law_gap"] ["_law_house", "_law_values"] (fnSc (top 35)) := ⟨rfl, rfl, rfl, by decide +kernel, rfl, by decide +kernel, by decide +kernel⟩
theorem ar309 : Ar 2 (Γt 309) := by
  intro ss Q E h
  have h : sp_up ss Q E := h
  unfold sp_up at h
  first | (obtain ⟨rfl, _⟩ := h; rfl) | (obtain ⟨_, rfl, _⟩ := h; rfl) | (obtain ⟨_, _, rfl, _⟩ := h; rfl) | (obtain ⟨_, _, _, rfl, _⟩ := h; rfl) | (obtain ⟨_, _, _, _, rfl, _⟩ := h; rfl) | (obtain ⟨_, _, _, _, _, rfl, _⟩ := h; rfl) | (obtain ⟨_, _, _, _, _, _, rfl, _⟩ := h; rfl) | (obtain ⟨_, _, _, _, _, _, _, rfl, _⟩ := h; rfl) | (obtain ⟨_, _, _, _, _, _, _, _, rfl, _⟩ := h; rfl) | (obtain ⟨_, _, _, _, _, _, _, _, _, rfl, _⟩ := h; rfl)
def t309 : Tab := ⟨[], [], [], conL, clsL, naT, ["pair", "gaps", "ways"], [("Order", 0)], [], []⟩
theorem ir309 : cSs 60 (t309.cc ["_law_house", "_law_values", "_law_found", "_law_name", "_law_edges", "_law_low", "_law_high", "_law_gap"] (top 35) [2] [] none) (fnBd (top 35)) = ir_law_up := by kernel_rfl
theorem k309 (KX : K.In h) (G : h.Ns mainGlobals mg) (c : SaysM fa fn ex K) : Kn (Tk K) Γt P w mg base 1 (He.fAd K ("_law_up", none)) 309 [] := by
  obtain ⟨fd, F⟩ := c.d.def_ 22 (d := d309) rfl
  exact kn_of (T := Tk K) (Γ := Γt) (t := t309) (N := ["_law_house", "_law_values", "_law_found", "_law_name", "_law_edges", "_law_low", "_law_high", "_law_gap"]) (ps := ["_law_house", "_law_values"]) (x := "_law_up") (qual := "_law_up") (st := (top 35)) (L := 0) (n := 60) F sc309 (env0 KX G c) ir309 (fun _ _ _ _ _ _ us hl => match us, hl with | [_, _], _ => rfl) ar309
    (fun p hp => by cases hp)
    (fun p hp => by cases hp)
    (fun p hp => by cases hp)
    (fun p hp => by cases hp)
    (fun p hp => by cases hp)
    (fun ss Q E h => ok_up (Γ := Γt)  h)
/-! 310 _law_state, level 4 -/
theorem sc310 : FnScope ["_law_draw", "_law_house", "_law_values", "_law_name"] ["_law_draw", "_law_house"] (fnSc (top 36)) := ⟨rfl, rfl, rfl, by decide +kernel, rfl, by decide +kernel, by decide +kernel⟩
theorem ar310 : Ar 2 (Γt 310) := by
  intro ss Q E h
  have h : sp_state ss Q E := h
  unfold sp_state at h
  first | (obtain ⟨rfl, _⟩ := h; rfl) | (obtain ⟨_, rfl, _⟩ := h; rfl) | (obtain ⟨_, _, rfl, _⟩ := h; rfl) | (obtain ⟨_, _, _, rfl, _⟩ := h; rfl) | (obtain ⟨_, _, _, _, rfl, _⟩ := h; rfl) | (obtain ⟨_, _, _, _, _, rfl, _⟩ := h; rfl) | (obtain ⟨_, _, _, _, _, _, rfl, _⟩ := h; rfl) | (obtain ⟨_, _, _, _, _, _, _, rfl, _⟩ := h; rfl) | (obtain ⟨_, _, _, _, _, _, _, _, rfl, _⟩ := h; rfl) | (obtain ⟨_, _, _, _, _, _, _, _, _, rfl, _⟩ := h; rfl)
def t310 : Tab := ⟨[(("_law_up", 2), 309, []), (("_law_value", 1), 303, [])], [], [], conL, clsL, naT, ["pair", "gaps", "ways"], [("Order", 0)], [], []⟩
theorem ir310 : cSs 60 (t310.cc ["_law_draw", "_law_house", "_law_values", "_law_name"] (top 36) [0, 2] [0] none) (fnBd (top 36)) = ir_law_state := by kernel_rfl
theorem k310 (KX : K.In h) (G : h.Ns mainGlobals mg) (c : SaysM fa fn ex K) : Kn (Tk K) Γt P w mg base 4 (He.fAd K ("_law_state", none)) 310 [] := by
  obtain ⟨fd, F⟩ := c.d.def_ 23 (d := d310) rfl
  exact kn_of (T := Tk K) (Γ := Γt) (t := t310) (N := ["_law_draw", "_law_house", "_law_values", "_law_name"]) (ps := ["_law_draw", "_law_house"]) (x := "_law_state") (qual := "_law_state") (st := (top 36)) (L := 3) (n := 60) F sc310 (env0 KX G c) ir310 (fun _ _ _ _ _ _ us hl => match us, hl with | [_, _], _ => rfl) ar310
    (fun p hp => by
    rcases List.mem_cons.mp hp with rfl | hp
    · exact ⟨1, _, by decide, He.glo_ok KX G (c.d.fact 19 (f := .glo "_law_up") rfl), (let ⟨_, F⟩ := c.d.def_ 22 (d := d309) rfl; F.kp), k309 KX G c⟩
    rcases List.mem_cons.mp hp with rfl | hp
    · exact ⟨3, _, by decide, He.glo_ok KX G (c.d.fact 16 (f := .glo "_law_value") rfl), (let ⟨_, F⟩ := c.d.def_ 19 (d := d303) rfl; F.kp), k303 KX G c⟩
    cases hp)
    (fun p hp => by cases hp)
    (fun p hp => by cases hp)
    (fun p hp => by cases hp)
    (fun p hp => by cases hp)
    (fun ss Q E h => ok_state (Γ := Γt) rfl rfl h)
/-! 311 _law_tuple, level 1 -/
theorem sc311 : FnScope ["_law_house", "_law_state_here", "_law_name"] ["_law_house", "_law_state_here"] (fnSc (top 37)) := ⟨rfl, rfl, rfl, by decide +kernel, rfl, by decide +kernel, by decide +kernel⟩
theorem ar311 : Ar 2 (Γt 311) := by
  intro ss Q E h
  have h : sp_tuple ss Q E := h
  unfold sp_tuple at h
  first | (obtain ⟨rfl, _⟩ := h; rfl) | (obtain ⟨_, rfl, _⟩ := h; rfl) | (obtain ⟨_, _, rfl, _⟩ := h; rfl) | (obtain ⟨_, _, _, rfl, _⟩ := h; rfl) | (obtain ⟨_, _, _, _, rfl, _⟩ := h; rfl) | (obtain ⟨_, _, _, _, _, rfl, _⟩ := h; rfl) | (obtain ⟨_, _, _, _, _, _, rfl, _⟩ := h; rfl) | (obtain ⟨_, _, _, _, _, _, _, rfl, _⟩ := h; rfl) | (obtain ⟨_, _, _, _, _, _, _, _, rfl, _⟩ := h; rfl) | (obtain ⟨_, _, _, _, _, _, _, _, _, rfl, _⟩ := h; rfl)
def t311 : Tab := ⟨[], [], [], conL, clsL, naT, ["pair", "gaps", "ways"], [("Order", 0)], [], []⟩
theorem ir311 : cSs 60 (t311.cc ["_law_house", "_law_state_here", "_law_name"] (top 37) [] [] none) (fnBd (top 37)) = ir_law_tuple := by kernel_rfl
theorem k311 (KX : K.In h) (G : h.Ns mainGlobals mg) (c : SaysM fa fn ex K) : Kn (Tk K) Γt P w mg base 1 (He.fAd K ("_law_tuple", none)) 311 [] := by
  obtain ⟨fd, F⟩ := c.d.def_ 24 (d := d311) rfl
  exact kn_of (T := Tk K) (Γ := Γt) (t := t311) (N := ["_law_house", "_law_state_here", "_law_name"]) (ps := ["_law_house", "_law_state_here"]) (x := "_law_tuple") (qual := "_law_tuple") (st := (top 37)) (L := 0) (n := 60) F sc311 (env0 KX G c) ir311 (fun _ _ _ _ _ _ us hl => match us, hl with | [_, _], _ => rfl) ar311
    (fun p hp => by cases hp)
    (fun p hp => by cases hp)
    (fun p hp => by cases hp)
    (fun p hp => by cases hp)
    (fun p hp => by cases hp)
    (fun ss Q E h => ok_tuple (Γ := Γt)  h)
/-! 322 _law_row, level 4 -/
theorem sc322 : FnScope ["_law_draw", "_law_house", "_law_state_here", "_law_least", "_law_most", "_law_found", "_law_turn", "_law_name", "_law_value_here"] ["_law_draw", "_law_house", "_law_state_here", "_law_least", "_law_most"] (fnSc (top 38)) := ⟨rfl, rfl, rfl, by decide +kernel, rfl, by decide +kernel, by decide +kernel⟩
theorem ar322 : Ar 5 (Γt 322) := by
  intro ss Q E h
  have h : sp_row ss Q E := h
  unfold sp_row at h
  first | (obtain ⟨rfl, _⟩ := h; rfl) | (obtain ⟨_, rfl, _⟩ := h; rfl) | (obtain ⟨_, _, rfl, _⟩ := h; rfl) | (obtain ⟨_, _, _, rfl, _⟩ := h; rfl) | (obtain ⟨_, _, _, _, rfl, _⟩ := h; rfl) | (obtain ⟨_, _, _, _, _, rfl, _⟩ := h; rfl) | (obtain ⟨_, _, _, _, _, _, rfl, _⟩ := h; rfl) | (obtain ⟨_, _, _, _, _, _, _, rfl, _⟩ := h; rfl) | (obtain ⟨_, _, _, _, _, _, _, _, rfl, _⟩ := h; rfl) | (obtain ⟨_, _, _, _, _, _, _, _, _, rfl, _⟩ := h; rfl)
def t322 : Tab := ⟨[(("_law_pick", 2), 302, []), (("_law_value", 1), 303, []), (("_law_take", 2), 301, [])], [], [], conL, clsL, naT, ["pair", "gaps", "ways"], [("Order", 0)], [], []⟩
theorem ir322 : cSs 60 (t322.cc ["_law_draw", "_law_house", "_law_state_here", "_law_least", "_law_most", "_law_found", "_law_turn", "_law_name", "_law_value_here"] (top 38) [0, 5] [0] none) (fnBd (top 38)) = ir_law_row := by kernel_rfl
theorem k322 (KX : K.In h) (G : h.Ns mainGlobals mg) (c : SaysM fa fn ex K) : Kn (Tk K) Γt P w mg base 4 (He.fAd K ("_law_row", none)) 322 [] := by
  obtain ⟨fd, F⟩ := c.d.def_ 25 (d := d322) rfl
  exact kn_of (T := Tk K) (Γ := Γt) (t := t322) (N := ["_law_draw", "_law_house", "_law_state_here", "_law_least", "_law_most", "_law_found", "_law_turn", "_law_name", "_law_value_here"]) (ps := ["_law_draw", "_law_house", "_law_state_here", "_law_least", "_law_most"]) (x := "_law_row") (qual := "_law_row") (st := (top 38)) (L := 3) (n := 60) F sc322 (env0 KX G c) ir322 (fun _ _ _ _ _ _ us hl => match us, hl with | [_, _, _, _, _], _ => rfl) ar322
    (fun p hp => by
    rcases List.mem_cons.mp hp with rfl | hp
    · exact ⟨2, _, by decide, He.glo_ok KX G (c.d.fact 15 (f := .glo "_law_pick") rfl), (let ⟨_, F⟩ := c.d.def_ 18 (d := d302) rfl; F.kp), k302 KX G c⟩
    rcases List.mem_cons.mp hp with rfl | hp
    · exact ⟨3, _, by decide, He.glo_ok KX G (c.d.fact 16 (f := .glo "_law_value") rfl), (let ⟨_, F⟩ := c.d.def_ 19 (d := d303) rfl; F.kp), k303 KX G c⟩
    rcases List.mem_cons.mp hp with rfl | hp
    · exact ⟨1, _, by decide, He.glo_ok KX G (c.d.fact 14 (f := .glo "_law_take") rfl), (let ⟨_, F⟩ := c.d.def_ 17 (d := d301) rfl; F.kp), k301 KX G c⟩
    cases hp)
    (fun p hp => by cases hp)
    (fun p hp => by cases hp)
    (fun p hp => by cases hp)
    (fun p hp => by cases hp)
    (fun ss Q E h => ok_row (Γ := Γt) rfl rfl rfl h)
/-! 308 law, level 6 -/
theorem sc308 : FnScope ["_law_script", "_law_draw", "_law_turn", "_law_house", "_law_more", "_law_name", "_law_greater", "_law_frame", "_law_one", "_law_other", "_law_thing", "_law_fields", "_law_state_here", "_law_row_here", "_law_pushers", "_law_at"] ["_law_script"] (fnSc (top 39)) := ⟨rfl, rfl, rfl, by decide +kernel, rfl, by decide +kernel, by decide +kernel⟩
theorem ar308 : Ar 1 (Γt 308) := by
  intro ss Q E h
  have h : sp_law ss Q E := h
  unfold sp_law at h
  first | (obtain ⟨rfl, _⟩ := h; rfl) | (obtain ⟨_, rfl, _⟩ := h; rfl) | (obtain ⟨_, _, rfl, _⟩ := h; rfl) | (obtain ⟨_, _, _, rfl, _⟩ := h; rfl) | (obtain ⟨_, _, _, _, rfl, _⟩ := h; rfl) | (obtain ⟨_, _, _, _, _, rfl, _⟩ := h; rfl) | (obtain ⟨_, _, _, _, _, _, rfl, _⟩ := h; rfl) | (obtain ⟨_, _, _, _, _, _, _, rfl, _⟩ := h; rfl) | (obtain ⟨_, _, _, _, _, _, _, _, rfl, _⟩ := h; rfl) | (obtain ⟨_, _, _, _, _, _, _, _, _, rfl, _⟩ := h; rfl)
def t308 : Tab := ⟨[(("_law_begun", 1), 300, []), (("_law_order", 4), 305, []), (("_law_up", 2), 309, []), (("_law_pick", 2), 302, []), (("_law_state", 2), 310, []), (("_law_row", 5), 322, []), (("_law_tuple", 2), 311, []), (("_law_take", 2), 301, []), (("_law_value", 1), 303, [])], [(("Order", 2), 0, 100, [])], [], conL, clsL, naT, ["pair", "gaps", "ways"], [("_law_frame", 0), ("Order", 0)], [((0, .nin), 103)], [(("done", 3, ["pushing"]), 16)]⟩
theorem ir308 : cSs 60 (t308.cc ["_law_script", "_law_draw", "_law_turn", "_law_house", "_law_more", "_law_name", "_law_greater", "_law_frame", "_law_one", "_law_other", "_law_thing", "_law_fields", "_law_state_here", "_law_row_here", "_law_pushers", "_law_at"] (top 39) [1, 4, 14] [1] none) (fnBd (top 39)) = ir_law_k15 := by kernel_rfl
theorem k308 (KX : K.In h) (G : h.Ns mainGlobals mg) (c : SaysM fa fn ex K) : Kn (Tk K) Γt P w mg base 6 (He.fAd K ("law", none)) 308 [] := by
  obtain ⟨fd, F⟩ := c.d.def_ 26 (d := d308) rfl
  exact kn_of (T := Tk K) (Γ := Γt) (t := t308) (N := ["_law_script", "_law_draw", "_law_turn", "_law_house", "_law_more", "_law_name", "_law_greater", "_law_frame", "_law_one", "_law_other", "_law_thing", "_law_fields", "_law_state_here", "_law_row_here", "_law_pushers", "_law_at"]) (ps := ["_law_script"]) (x := "law") (qual := "law") (st := (top 39)) (L := 5) (n := 60) F sc308 (env0 KX G c) ir308 (fun _ _ _ _ _ _ us hl => match us, hl with | [_], _ => rfl) ar308
    (fun p hp => by
    rcases List.mem_cons.mp hp with rfl | hp
    · exact ⟨1, _, by decide, He.glo_ok KX G (c.d.fact 13 (f := .glo "_law_begun") rfl), (let ⟨_, F⟩ := c.d.def_ 16 (d := d300) rfl; F.kp), k300 KX G c⟩
    rcases List.mem_cons.mp hp with rfl | hp
    · exact ⟨4, _, by decide, He.glo_ok KX G (c.d.fact 18 (f := .glo "_law_order") rfl), (let ⟨_, F⟩ := c.d.def_ 21 (d := d305) rfl; F.kp), k305 KX G c⟩
    rcases List.mem_cons.mp hp with rfl | hp
    · exact ⟨1, _, by decide, He.glo_ok KX G (c.d.fact 19 (f := .glo "_law_up") rfl), (let ⟨_, F⟩ := c.d.def_ 22 (d := d309) rfl; F.kp), k309 KX G c⟩
    rcases List.mem_cons.mp hp with rfl | hp
    · exact ⟨2, _, by decide, He.glo_ok KX G (c.d.fact 15 (f := .glo "_law_pick") rfl), (let ⟨_, F⟩ := c.d.def_ 18 (d := d302) rfl; F.kp), k302 KX G c⟩
    rcases List.mem_cons.mp hp with rfl | hp
    · exact ⟨4, _, by decide, He.glo_ok KX G (c.d.fact 20 (f := .glo "_law_state") rfl), (let ⟨_, F⟩ := c.d.def_ 23 (d := d310) rfl; F.kp), k310 KX G c⟩
    rcases List.mem_cons.mp hp with rfl | hp
    · exact ⟨4, _, by decide, He.glo_ok KX G (c.d.fact 22 (f := .glo "_law_row") rfl), (let ⟨_, F⟩ := c.d.def_ 25 (d := d322) rfl; F.kp), k322 KX G c⟩
    rcases List.mem_cons.mp hp with rfl | hp
    · exact ⟨1, _, by decide, He.glo_ok KX G (c.d.fact 21 (f := .glo "_law_tuple") rfl), (let ⟨_, F⟩ := c.d.def_ 24 (d := d311) rfl; F.kp), k311 KX G c⟩
    rcases List.mem_cons.mp hp with rfl | hp
    · exact ⟨1, _, by decide, He.glo_ok KX G (c.d.fact 14 (f := .glo "_law_take") rfl), (let ⟨_, F⟩ := c.d.def_ 17 (d := d301) rfl; F.kp), k301 KX G c⟩
    rcases List.mem_cons.mp hp with rfl | hp
    · exact ⟨3, _, by decide, He.glo_ok KX G (c.d.fact 16 (f := .glo "_law_value") rfl), (let ⟨_, F⟩ := c.d.def_ 19 (d := d303) rfl; F.kp), k303 KX G c⟩
    cases hp)
    (fun p hp => by
    rcases List.mem_cons.mp hp with rfl | hp
    · exact ⟨3, _, by decide, He.mkr_ok (c.d.fact 30 (f := .mkr "Order") rfl), ob0 c, He.glo_ok KX G (c.d.fact 24 (f := .glo "Order") rfl), k100 KX G c⟩
    cases hp)
    (fun p hp => by cases hp)
    (fun p hp => by
    rcases List.mem_cons.mp hp with rfl | hp
    · exact ⟨2, _, by decide, He.meth_ok (c.d.fact 31 (f := .meth "Order" "__contains__") rfl), k103 KX G c, dnX_ok (exs c).2.2.2.2.2.2.2.1⟩
    cases hp)
    (fun p hp => by
    rcases List.mem_cons.mp hp with rfl | hp
    · exact ⟨5, _, by decide, He.glo_ok KX G (c.d.fact 7 (f := .glo "done") rfl), (let ⟨_, F⟩ := c.d.def_ 10 (d := d16) rfl; F.kp), k16k KX G c⟩
    cases hp)
    (fun ss Q E h => ok_law15 (Γ := Γt) rfl rfl rfl rfl rfl rfl rfl rfl rfl rfl rfl rfl h)
end
def loose : List PySem.Str := (["_wall", "BoundsError", "BadName", "BadLimit", "NoField", "NoState", "NoMatch", "need_state", "need_fields", "bounds", "with_stop", "with_push", "after_setting", "need_row", "done", "MOST_LETTERS", "LETTERS", "is_name", "is_integer", "widened", "closes_ring", "gaps_of", "Order", "_law_begun", "_law_take", "_law_pick", "_law_value", "_law_names", "_law_order", "_law_up"] : List PySem.Str) ++ (["_law_state", "_law_tuple", "_law_row"] : List PySem.Str)
abbrev R : PySem.W.OpenRow := PySem.W.OpenLaw.row PySem.Challenge.rw_fieldbounds_k15_whole_greater_stays_grea
abbrev hk : PySem.W.Hook := hookM 6 fa fn ex
def ob (s : PySem.W.SharedT) : AlM := obsM 6 fa fn ex (HandSHeadRun.getT s)
theorem ob_eq (s : PySem.W.SharedT) : ob s = hk.obs s.abs := obsM_eq (HandSHeadRun.getT_eq s)
theorem run (w : World) : HandSHeadRun.RunEq R (PySem.W.view R.prog [39]) hk ob 4000 loose w := by
  intro os
  kernel_rfl
theorem facts {P : Program} {w : World} {K : PySem.W.Frag} {h : Heap} {mg : Str → Option Value} {f : Addr} (KX : K.In h) (G : h.Ns mainGlobals mg) (hfa : mg ("law" : Str) = some (.ref f)) (c : SaysM fa fn ex K) :
    ∃ fd : FuncData, (∀ (s : Shared) (v : Value), BindsTo s fd ⟨[v], []⟩ [("_law_script", v)]) ∧ ∀ base : Heap, K.In base → base.Ns mainGlobals mg → FnOk P w K mg base (L2.CX P w) 6 f fd ["_law_script"] (spF (Tk K) 1 sp_law) := by
  obtain ⟨fd, F⟩ := c.d.def_ 26 (d := d308) rfl
  have e := hfa.symm.trans (He.glo_ok KX G (c.d.fact 23 (f := .glo "law") rfl))
  cases e
  have b := FunD.bindsA (ps := ["_law_script"]) F fun _ _ _ _ _ _ us hl => match us, hl with | [_], _ => rfl
  refine ⟨fd, fun s v => b s [v] rfl, fun base _ _ => ?_⟩
  exact kn_ofD (T := Tk K) (Γ := Γt) (t := t308) (N := ["_law_script", "_law_draw", "_law_turn", "_law_house", "_law_more", "_law_name", "_law_greater", "_law_frame", "_law_one", "_law_other", "_law_thing", "_law_fields", "_law_state_here", "_law_row_here", "_law_pushers", "_law_at"]) (ps := ["_law_script"]) (x := "law") (qual := "law") (st := (top 39)) (L := 5) (n := 60) (fi := 308) F sc308 (env0 KX G c) ir308
    (fun p hp => by
    rcases List.mem_cons.mp hp with rfl | hp
    · exact ⟨1, _, by decide, He.glo_ok KX G (c.d.fact 13 (f := .glo "_law_begun") rfl), (let ⟨_, F⟩ := c.d.def_ 16 (d := d300) rfl; F.kp), k300 KX G c⟩
    rcases List.mem_cons.mp hp with rfl | hp
    · exact ⟨4, _, by decide, He.glo_ok KX G (c.d.fact 18 (f := .glo "_law_order") rfl), (let ⟨_, F⟩ := c.d.def_ 21 (d := d305) rfl; F.kp), k305 KX G c⟩
    rcases List.mem_cons.mp hp with rfl | hp
    · exact ⟨1, _, by decide, He.glo_ok KX G (c.d.fact 19 (f := .glo "_law_up") rfl), (let ⟨_, F⟩ := c.d.def_ 22 (d := d309) rfl; F.kp), k309 KX G c⟩
    rcases List.mem_cons.mp hp with rfl | hp
    · exact ⟨2, _, by decide, He.glo_ok KX G (c.d.fact 15 (f := .glo "_law_pick") rfl), (let ⟨_, F⟩ := c.d.def_ 18 (d := d302) rfl; F.kp), k302 KX G c⟩
    rcases List.mem_cons.mp hp with rfl | hp
    · exact ⟨4, _, by decide, He.glo_ok KX G (c.d.fact 20 (f := .glo "_law_state") rfl), (let ⟨_, F⟩ := c.d.def_ 23 (d := d310) rfl; F.kp), k310 KX G c⟩
    rcases List.mem_cons.mp hp with rfl | hp
    · exact ⟨4, _, by decide, He.glo_ok KX G (c.d.fact 22 (f := .glo "_law_row") rfl), (let ⟨_, F⟩ := c.d.def_ 25 (d := d322) rfl; F.kp), k322 KX G c⟩
    rcases List.mem_cons.mp hp with rfl | hp
    · exact ⟨1, _, by decide, He.glo_ok KX G (c.d.fact 21 (f := .glo "_law_tuple") rfl), (let ⟨_, F⟩ := c.d.def_ 24 (d := d311) rfl; F.kp), k311 KX G c⟩
    rcases List.mem_cons.mp hp with rfl | hp
    · exact ⟨1, _, by decide, He.glo_ok KX G (c.d.fact 14 (f := .glo "_law_take") rfl), (let ⟨_, F⟩ := c.d.def_ 17 (d := d301) rfl; F.kp), k301 KX G c⟩
    rcases List.mem_cons.mp hp with rfl | hp
    · exact ⟨3, _, by decide, He.glo_ok KX G (c.d.fact 16 (f := .glo "_law_value") rfl), (let ⟨_, F⟩ := c.d.def_ 19 (d := d303) rfl; F.kp), k303 KX G c⟩
    cases hp)
    (fun p hp => by
    rcases List.mem_cons.mp hp with rfl | hp
    · exact ⟨3, _, by decide, He.mkr_ok (c.d.fact 30 (f := .mkr "Order") rfl), ob0 c, He.glo_ok KX G (c.d.fact 24 (f := .glo "Order") rfl), k100 KX G c⟩
    cases hp)
    (fun p hp => by cases hp)
    (fun p hp => by
    rcases List.mem_cons.mp hp with rfl | hp
    · exact ⟨2, _, by decide, He.meth_ok (c.d.fact 31 (f := .meth "Order" "__contains__") rfl), k103 KX G c, dnX_ok (exs c).2.2.2.2.2.2.2.1⟩
    cases hp)
    (fun p hp => by
    rcases List.mem_cons.mp hp with rfl | hp
    · exact ⟨5, _, by decide, He.glo_ok KX G (c.d.fact 7 (f := .glo "done") rfl), (let ⟨_, F⟩ := c.d.def_ 10 (d := d16) rfl; F.kp), k16k KX G c⟩
    cases hp)
    (fun ss Q E h => ok_law15 (Γ := Γt) rfl rfl rfl rfl rfl rfl rfl rfl rfl rfl rfl rfl h)
end Mi
open PySem PySem.W PySem.Calls PyProof.Rows
theorem PySem.Challenge.cw_fieldbounds_k15_whole_greater_stays_grea_holds : PySem.Challenge.rw_fieldbounds_k15_whole_greater_stays_grea.Holds := by
  w_on; o_law
  refine HandSHeadRun.head_any (r := OpenLaw.row PySem.Challenge.rw_fieldbounds_k15_whole_greater_stays_grea) (q := view (OpenLaw.row PySem.Challenge.rw_fieldbounds_k15_whole_greater_stays_grea).prog [39]) (H := Mi.hk) (ob := Mi.ob) (M := 4000) (loose := Mi.loose) (d := HandSHeadRun.topDef (OpenLaw.row PySem.Challenge.rw_fieldbounds_k15_whole_greater_stays_grea).prog 39) (kwd := []) Mi.ob_eq
    (by kernel_rfl) (fun s => by kernel_rfl) Mi.run (by kernel_rfl) (by kernel_rfl) (by kernel_rfl) (by rfl) (by first | assumption | decide +kernel) (by decide +kernel) ⟨rfl, rfl, rfl, rfl, rfl, by decide +kernel⟩ ?hw ?hc
  case hw => w_witness2
  case hc =>
    refine Mi.walk_ofW (l := PySem.Challenge.rw_fieldbounds_k15_whole_greater_stays_grea) (n := 63) (k := 6) (x := "_law_script") rfl (by decide) (by kernel_rfl) ⟨rfl, by decide, by decide⟩ ?F
    case F =>
      intro w mg fa h Y G hmg0
      obtain ⟨K, KX, c⟩ := Y
      have hmg : mg ("law" : PySem.Str) = some (.ref fa) := by
        have e : (HandSHeadRun.topDef (OpenLaw.row PySem.Challenge.rw_fieldbounds_k15_whole_greater_stays_grea).prog 39).name = ("law" : PySem.Str) := by kernel_rfl
        rw [← e]
        exact hmg0
      obtain ⟨fd, hb, hF⟩ := Mi.facts (P := (PySem.Challenge.rw_fieldbounds_k15_whole_greater_stays_grea).prog) (w := w) KX G hmg c
      exact ⟨K, fd, Mi.spF (Mi.Tk K) 1 Mi.sp_law, KX, hb, fun H a ns hl hO hS => Mi.law_sp (T := Mi.Tk K) (n := 63) (fun xs Q E hx q => ⟨xs, rfl, hx, q⟩) H a ns hl hS hO, hF⟩
