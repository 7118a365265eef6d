import PyProof.Rows.All
import Wide.All
import OpenK.AllK
import Wide.FinOn
import HandS.ForMost
import HandS.Wide
import HandS.Deep
import HandS.IsInst
import HandS.ExcInit
import HandS.TupAny
import HandS.ExcOwn
import HandS.ExcIs
import HandS.Zip
import HandS.Style
import HandS.Defaults
import KE.KExcSuper
import HandS.Exc
import KE.KSuper
import KE.KExcInit
import HandS.ExcValue
import HandS.HeadHook2
import HandS.HeadEnd
import HandS.Head2
import KE.KStateDown
import HandS.Ends
import HandS.More
import HandS.Words
import HandS.WordsExc
import HandS.Head0
import HandS.Head1
import PySem.Challenge.RW_nightsmeet_k01_errors_by_themselves
section
set_option linter.all false
/-! NM: a small language over plain data; its meaning. -/
namespace NM
open PySem PyProof.Rows L2

/-- plain values -/
inductive D where
  | non | bl (b : Bool) | int (i : Int) | str (s : Str)
  | tup (xs : List D) | lst (xs : List D)
  | ins (c : Str) (fs : List (Str × D))
  | exc (c : Str) (fs : List (Str × D))
  | ref (n : Nat)
  | scr (xs : List D)
instance : Inhabited D := ⟨.non⟩

/-- a changing object -/
inductive MO where
  | lst (xs : List D)
  | frz (d : D)
  | gone

abbrev S := List MO
abbrev Env := List (Option D)

inductive R (α : Type) where
  | ok (a : α) (s : S) | exn (e : D) (s : S) | bad

def R.bind {α β : Type} : R α → (α → S → R β) → R β
  | .ok a s, f => f a s
  | .exn e s, _ => .exn e s
  | .bad, _ => .bad

inductive O where
  | nx (ρ : Env) (s : S) | rt (d : D) (s : S) | bk (ρ : Env) (s : S) | ct (ρ : Env) (s : S) | exn (e : D) (s : S) | bad

/-- targets -/
inductive T where
  | v (i : Nat) | tup (ts : List T)

mutual
inductive E where
  | k (d : D) | v (i : Nat) | g (x : Str)
  | bin (op : Operator) (a b : E) | neg (a : E)
  | and (a b : E) | or (a b : E) | not (a : E)
  | ite (c : C) (a b : E)
  | cmp (op : CmpOp) (a b : E) | cmp2 (o1 o2 : CmpOp) (a b c : E)
  | tup (es : Es) | lst (es : Es)
  | idx (a i : E) | slc (a lo hi : E) | no
  | call (f : Str) (es : Es) | bi (b : Str) (es : Es)
  | new (c : Str) (e : E) | new0 (c : Str)
  | isi (e : E) (cs : List Str)
  | attr (e : E) (f : Str)
  | lc (own : List Nat) (elt : E) (tg : T) (it : It) (ifs : C)
  | mlst (es : Es)
inductive Es where
  | nil | cons (e : E) (es : Es)
inductive C where
  | val (e : E) | and (a b : C) | or (a b : C) | not (a : C) | yes
  | cmp (op : CmpOp) (a b : E) | cmp2 (o1 o2 : CmpOp) (a b c : E)
inductive It where
  | seq (e : E) | rng1 (a : E) | rng2 (a b : E) | enu (a : E) | zip (a b : E)
end

mutual
inductive St where
  | asg (t : T) (e : E)
  | par (ts : List Nat) (es : Es)
  | sub (o i e : E)
  | expr (e : E) | ret (e : E) | retN
  | ite (c : C) (a b : Ss)
  | for (t : T) (it : It) (body : Ss)
  | while (c : C) (body : Ss)
  | brk | cont | pass
inductive Ss where
  | nil | cons (s : St) (ss : Ss)
end

def isNo : E → Bool
  | .no => true
  | _ => false

/-! ### values' operations -/
mutual
def D.toP : D → Option PyData
  | .non => some .none
  | .bl b => some (.bool b)
  | .int i => some (.int i)
  | .str s => some (.str s)
  | .tup xs => (D.toPs xs).map .tuple
  | .lst xs => (D.toPs xs).map .list
  | _ => none
def D.toPs : List D → Option (List PyData)
  | [] => some []
  | d :: ds => match D.toP d, D.toPs ds with
    | some p, some ps => some (p :: ps)
    | _, _ => none
end

/-- what a value holds now -/
def look (s : S) : D → D
  | .ref n => match s[n]? with
    | some (.lst xs) => .lst xs
    | some (.frz d) => d
    | _ => .ref n
  | d => d

def eqD (a b : D) : Option Bool := match a.toP, b.toP with
  | some p, some q => if SeqAt.shaped p = true ∧ SeqAt.shaped q = true then some (PyData.eqv p q) else none
  | _, _ => none

/-- items of xs[lo:hi] -/
def cutD {α : Type} (xs : List α) (lo hi : Option Int) : List α := (xs.drop (HT.sIx xs.length 0 lo)).take (HT.sIx xs.length xs.length hi - HT.sIx xs.length 0 lo)
def small (i : Int) : Bool := decide (0 < i ∧ i < 4611686018427387904)
def fac (i : Int) : Bool := decide (-18446744073709551616 < i ∧ i < 18446744073709551616)
def line : Nat := 16777216

def binD (op : Operator) (a b : D) : Option D := match op, a, b with
  | .Add, .int i, .int j => some (.int (i + j))
  | .Sub, .int i, .int j => some (.int (i - j))
  | .Mult, .int i, .int j => if fac i || fac j then some (.int (i * j)) else none
  | .FloorDiv, .int i, .int j => if small j then some (.int (i / j)) else none
  | .Mod, .int i, .int j => if small j then some (.int (i % j)) else none
  | .Pow, .int i, .int j => if 0 ≤ j ∧ j ≤ 1000 ∧ fac i = true then some (.int (i ^ j.toNat)) else none
  | .Add, .lst xs, .lst ys => if xs.length + ys.length ≤ line then some (.lst (xs ++ ys)) else none
  | .Add, .tup xs, .tup ys => if xs.length + ys.length ≤ line then some (.tup (xs ++ ys)) else none
  | .Add, .str x, .str y => if x.length + y.length ≤ line then some (.str (x ++ y)) else none
  | .Mult, .lst xs, .int k => if k < 1000 ∧ -1000 < k ∧ xs.length * k.toNat ≤ line then some (.lst (List.replicate k.toNat xs).flatten) else none
  | _, _, _ => none

/-- is it one of the flat kinds, that compare by themselves -/
def flatD : D → Bool
  | .non | .bl _ | .int _ | .str _ => true
  | _ => false

def inD (x : D) : D → Option Bool
  | .lst ys => match x.toP, D.toPs ys with
    | some p, some ps => if SeqAt.shaped p = true ∧ SeqAt.shaped (.list ps) = true then some (ps.any fun z => PyData.eqv z p) else none
    | _, _ => none
  | .tup ys => if flatD x && ys.all flatD then match x.toP, D.toPs ys with
    | some p, some ps => some (ps.any fun z => PyData.eqv z p)
    | _, _ => none else none
  | .str z => match x with
    | .str y => some (!(Builtin.Str.occurrences z y 0 z.length 1).isEmpty)
    | _ => none
  | _ => none

def cmpD (op : CmpOp) (a b : D) : Option Bool := match op with
  | .Eq => eqD a b
  | .NotEq => (eqD a b).map (!·)
  | .Lt => match a, b with
    | .int i, .int j => some (decide (i < j))
    | _, _ => none
  | .LtE => match a, b with
    | .int i, .int j => some (decide (i ≤ j))
    | _, _ => none
  | .Gt => match a, b with
    | .int i, .int j => some (decide (j < i))
    | _, _ => none
  | .GtE => match a, b with
    | .int i, .int j => some (decide (j ≤ i))
    | _, _ => none
  | .In => inD a b
  | .NotIn => (inD a b).map (!·)
  | .Is => match b with
    | .non => some (match a with | .non => true | _ => false)
    | _ => none
  | .IsNot => match b with
    | .non => some (match a with | .non => false | _ => true)
    | _ => none

def truD : D → Option Bool
  | .non => some false
  | .bl b => some b
  | .int i => some (i != 0)
  | .lst xs => some (!xs.isEmpty)
  | .tup xs => some (!xs.isEmpty)
  | _ => none

def lenD : D → Option Nat
  | .lst xs => some xs.length
  | .tup xs => some xs.length
  | .str x => if x.length ≤ line then some x.length else none
  | _ => none

def idxD (a i : D) : Option D := match i with
  | .int i => match a with
    | .lst xs => atI xs i
    | .tup xs => atI xs i
    | .str z => if z.length ≤ line then (atI z.cps.toList i).map fun c => .str ⟨#[c]⟩ else none
    | _ => none
  | _ => none

def partD (left : Bool) (d : D) : Option (Option Int) := if left then some none else match d with
  | .int i => some (some i)
  | _ => none

def slcD (a : D) (lo hi : Option Int) : Option D := match a with
  | .lst xs => some (.lst (cutD xs lo hi))
  | .scr xs => some (.lst (cutD xs lo hi))
  | .tup xs => some (.tup (cutD xs lo hi))
  | .str z => if z.length ≤ line then some (.str (cutS z lo hi)) else none
  | _ => none

def boolsD : List D → Option (List Bool)
  | [] => some []
  | .bl c :: ds => (boolsD ds).map (c :: ·)
  | _ => none

def biD (b : Str) (as : List D) : Option D :=
  if b = "len" then match as with
    | [a] => (lenD a).map fun n => .int n
    | _ => none
  else if b = "int" then match as with
    | [.int i] => some (.int i)
    | [.bl c] => some (.int (if c then 1 else 0))
    | _ => none
  else if b = "abs" then match as with
    | [.int i] => some (.int (if i < 0 then -i else i))
    | _ => none
  else if b = "list" then match as with
    | [.lst xs] => some (.lst xs)
    | [.tup xs] => some (.lst xs)
    | _ => none
  else if b = "max" then match as with
    | [.int i, .int j] => some (.int (if j > i then j else i))
    | _ => none
  else if b = "all" then match as with
    | [.lst xs] => (boolsD xs).map fun (bs : List Bool) => D.bl (bs.all id)
    | _ => none
  else none

/-- the built-in class of a value, by its name -/
def tyD : D → Option Str
  | .non => some "NoneType" | .bl _ => some "bool" | .int _ => some "int" | .str _ => some "str" | .tup _ => some "tuple" | .lst _ => some "list"
  | .ins c _ => some c | .exc c _ => some c | .ref _ => none | .scr _ => none
/-- one of the classes -/
def anyC (f : Str → Option Bool) : List Str → Option Bool
  | [] => some false
  | k :: ks => match f k with
    | some true => some true
    | some false => anyC f ks
    | none => none

/-- what stands around: the callees, the module's constants, the classes -/
structure Cxt where
  has : Str → Bool
  call : Str → List D → S → R D
  par : Str → Option (Option Str)
  con : Str → Option D
  sub : Str → Str → Option Bool
  fld : Str → Str → Bool
  fuel : Nat

/-- a new exception: its code, its field -/
def newD (par : Str → Option (Option Str)) (k : Str) (d : Option D) : Option D := match par k, d with
  | some (some p), some d => some (.exc k [(p, d), ("code", .str k)])
  | some none, none => some (.exc k [("code", .str k)])
  | _, _ => none

def lift {α : Type} (o : Option α) (s : S) : R α := match o with
  | some a => .ok a s
  | none => .bad

/-! the values of the targets -/
mutual
def T.set : T → D → Env → Option Env
  | .v i, d, ρ => if i < ρ.length then some (ρ.set i (some d)) else none
  | .tup ts, d, ρ => match d with
    | .tup ds => T.sets ts ds ρ
    | _ => none
def T.sets : List T → List D → Env → Option Env
  | [], ds, ρ => match ds with
    | [] => some ρ
    | _ => none
  | t :: ts, ds, ρ => match ds with
    | d :: ds => match t.set d ρ with
      | some ρ' => T.sets ts ds ρ'
      | none => none
    | [] => none
end

def wipeE (ρ : Env) : List Nat → Env
  | [] => ρ
  | i :: is => wipeE (ρ.set i none) is

def itemsD : D → Option (List D)
  | .lst xs => some xs
  | .tup xs => some xs
  | _ => none

def rngD (lo : Int) : Nat → List D
  | 0 => []
  | n + 1 => .int lo :: rngD (lo + 1) n

/-- where no exception may leave -/
def R.calm {α : Type} : R α → R α
  | .exn _ _ => .bad
  | r => r
/-- a comprehension's turns -/
def lcGo (ρ : Env) (tg : T) (test : Env → S → R Bool) (elt : Env → S → R D) : List D → List D → S → R (List D)
  | [], acc, s => .ok acc s
  | d :: ds, acc, s => match tg.set d ρ with
    | none => .bad
    | some ρ' => (test ρ' s).calm.bind fun c s1 => if c then (elt ρ' s1).calm.bind fun x s2 => if acc.length < line then lcGo ρ tg test elt ds (acc ++ [x]) s2 else .bad else lcGo ρ tg test elt ds acc s1

mutual
def ev (c : Cxt) : E → Env → S → R D
  | .k d, _, s => .ok d s
  | .v i, ρ, s => match ρ[i]? with
    | some (some d) => .ok d s
    | _ => .bad
  | .g x, _, s => lift (c.con x) s
  | .bin op a b, ρ, s => (ev c a ρ s).bind fun x s1 => (ev c b ρ s1).bind fun y s2 => lift (binD op (look s2 x) (look s2 y)) s2
  | .neg a, ρ, s => (ev c a ρ s).bind fun x s1 => match x with
    | .int i => .ok (.int (-i)) s1
    | _ => .bad
  | .and a b, ρ, s => (ev c a ρ s).bind fun x s1 => match x with
    | .bl k => if k then ev c b ρ s1 else .ok (.bl false) s1
    | _ => .bad
  | .or a b, ρ, s => (ev c a ρ s).bind fun x s1 => match x with
    | .bl k => if k then .ok (.bl true) s1 else ev c b ρ s1
    | _ => .bad
  | .not a, ρ, s => (ev c a ρ s).bind fun x s1 => match x with
    | .bl k => .ok (.bl (!k)) s1
    | _ => .bad
  | .ite t a b, ρ, s => (evC c t ρ s).bind fun k s1 => if k then ev c a ρ s1 else ev c b ρ s1
  | .cmp op a b, ρ, s => (ev c a ρ s).bind fun x s1 => (ev c b ρ s1).bind fun y s2 => lift ((cmpD op (look s2 x) (look s2 y)).map .bl) s2
  | .cmp2 o1 o2 a b d, ρ, s => (ev c a ρ s).bind fun x s1 => (ev c b ρ s1).bind fun y s2 => (lift (cmpD o1 (look s2 x) (look s2 y)) s2).bind fun k s3 =>
      if k then (ev c d ρ s3).bind fun z s4 => lift ((cmpD o2 (look s4 y) (look s4 z)).map .bl) s4 else .ok (.bl false) s3
  | .tup es, ρ, s => (evs c es ρ s).bind fun ds s1 => if ds.length ≤ line then .ok (.tup ds) s1 else .bad
  | .lst es, ρ, s => (evs c es ρ s).bind fun ds s1 => if ds.length ≤ line then .ok (.lst ds) s1 else .bad
  | .idx a i, ρ, s => (ev c a ρ s).bind fun x s1 => (ev c i ρ s1).bind fun y s2 => lift (idxD (look s2 x) y) s2
  | .slc a lo hi, ρ, s => (ev c a ρ s).bind fun x s1 => ((ev c lo ρ s1).bind fun l s2 => lift (partD (isNo lo) l) s2).bind fun l s2 =>
      ((ev c hi ρ s2).bind fun h s3 => lift (partD (isNo hi) h) s3).bind fun h s3 => lift (slcD (look s3 x) l h) s3
  | .no, _, s => .ok .non s
  | .call f es, ρ, s => if c.has f then (evs c es ρ s).bind fun ds s1 => c.call f ds s1 else .bad
  | .bi b es, ρ, s => (evs c es ρ s).bind fun ds s1 => lift (biD b (ds.map (look s1))) s1
  | .new k e, ρ, s => if (c.par k).isSome then (ev c e ρ s).bind fun d s1 => lift (newD c.par k (some d)) s1 else .bad
  | .new0 k, _, s => if (c.par k).isSome then lift (newD c.par k none) s else .bad
  | .isi e cs, ρ, s => (ev c e ρ s).bind fun d s1 => lift ((tyD (look s1 d)).bind fun t => (anyC (c.sub t) cs).map .bl) s1
  | .attr e f, ρ, s => (ev c e ρ s).bind fun d s1 => match d with
    | .ins k fs => if c.fld k f then lift (fs.lookup f) s1 else .bad
    | .exc k fs => if c.fld k f then lift (fs.lookup f) s1 else .bad
    | _ => .bad
  | .lc own elt tg it t, ρ, s => (evI c it ρ s).bind fun ds s1 => (lcGo (wipeE ρ own) tg (evC c t) (ev c elt) ds [] s1).bind fun out s2 => .ok (.lst out) s2
  | .mlst es, ρ, s => (evs c es ρ s).bind fun ds s1 => if ds.length ≤ line then .ok (.ref s1.length) (s1 ++ [.lst ds]) else .bad
def evs (c : Cxt) : Es → Env → S → R (List D)
  | .nil, _, s => .ok [] s
  | .cons e es, ρ, s => (ev c e ρ s).bind fun d s1 => (evs c es ρ s1).bind fun ds s2 => .ok (d :: ds) s2
def evC (c : Cxt) : C → Env → S → R Bool
  | .yes, _, s => .ok true s
  | .val e, ρ, s => (ev c e ρ s).bind fun d s1 => lift (truD (look s1 d)) s1
  | .and a b, ρ, s => (evC c a ρ s).bind fun k s1 => if k then evC c b ρ s1 else .ok false s1
  | .or a b, ρ, s => (evC c a ρ s).bind fun k s1 => if k then .ok true s1 else evC c b ρ s1
  | .not a, ρ, s => (evC c a ρ s).bind fun k s1 => .ok (!k) s1
  | .cmp op a b, ρ, s => (ev c a ρ s).bind fun x s1 => (ev c b ρ s1).bind fun y s2 => lift (cmpD op (look s2 x) (look s2 y)) s2
  | .cmp2 o1 o2 a b d, ρ, s => (ev c a ρ s).bind fun x s1 => (ev c b ρ s1).bind fun y s2 => (lift (cmpD o1 (look s2 x) (look s2 y)) s2).bind fun k s3 =>
      if k then (ev c d ρ s3).bind fun z s4 => lift (cmpD o2 (look s4 y) (look s4 z)) s4 else .ok false s3
def evI (c : Cxt) : It → Env → S → R (List D)
  | .seq e, ρ, s => (ev c e ρ s).bind fun d s1 => lift (itemsD d) s1
  | .rng1 a, ρ, s => (ev c a ρ s).bind fun d s1 => match d with
    | .int n => if -1000000 < n ∧ n < 1000000 then .ok (rngD 0 n.toNat) s1 else .bad
    | _ => .bad
  | .rng2 a b, ρ, s => (ev c a ρ s).bind fun d s1 => (ev c b ρ s1).bind fun e s2 => match d, e with
    | .int m, .int n => if -4611686018427387904 < m ∧ m < 4611686018427387904 ∧ -4611686018427387904 < n ∧ n < 4611686018427387904 then .ok (rngD m (n - m).toNat) s2 else .bad
    | _, _ => .bad
  | .enu a, ρ, s => (ev c a ρ s).bind fun d s1 => match d with
    | .lst xs => .ok (((List.range xs.length).zip xs).map fun p => .tup [.int p.1, p.2]) s1
    | _ => .bad
  | .zip a b, ρ, s => (ev c a ρ s).bind fun d s1 => (ev c b ρ s1).bind fun e s2 => match d, e with
    | .lst xs, .lst ys => .ok ((xs.zip ys).map fun p => .tup [p.1, p.2]) s2
    | .tup xs, .tup ys => .ok ((xs.zip ys).map fun p => .tup [p.1, p.2]) s2
    | _, _ => .bad
end

/-! ### statements -/
def O.bind (o : O) (f : Env → S → O) : O := match o with
  | .nx ρ s => f ρ s
  | o => o
def R.out {α : Type} (r : R α) (f : α → S → O) : O := match r with
  | .ok a s => f a s
  | .exn e s => .exn e s
  | .bad => .bad
def forGo (tg : T) (body : Env → S → O) : List D → Env → S → O
  | [], ρ, s => .nx ρ s
  | d :: ds, ρ, s => match tg.set d ρ with
    | none => .bad
    | some ρ' => match body ρ' s with
      | .nx ρ2 s2 => forGo tg body ds ρ2 s2
      | .ct ρ2 s2 => forGo tg body ds ρ2 s2
      | .bk ρ2 s2 => .nx ρ2 s2
      | o => o
def whGo (test : Env → S → R Bool) (body : Env → S → O) : Nat → Env → S → O
  | 0, _, _ => .bad
  | n + 1, ρ, s => (test ρ s).out fun k s1 => if k then match body ρ s1 with
      | .nx ρ2 s2 => whGo test body n ρ2 s2
      | .ct ρ2 s2 => whGo test body n ρ2 s2
      | .bk ρ2 s2 => .nx ρ2 s2
      | o => o
    else .nx ρ s1
def setsE : List Nat → List D → Env → Option Env
  | [], [], ρ => some ρ
  | i :: is, d :: ds, ρ => if i < ρ.length then setsE is ds (ρ.set i (some d)) else none
  | _, _, _ => none
def subS (s : S) (o i d : D) : Option S := match o, i with
  | .ref n, .int j => match s[n]? with
    | some (.lst xs) => (ixN xs.length j).map fun k => s.set n (.lst (xs.set k d))
    | _ => none
  | _, _ => none

mutual
def ex (c : Cxt) : St → Env → S → O
  | .asg t e, ρ, s => (ev c e ρ s).out fun d s1 => match t.set d ρ with
    | some ρ' => .nx ρ' s1
    | none => .bad
  | .par is es, ρ, s => (evs c es ρ s).out fun ds s1 => match setsE is ds ρ with
    | some ρ' => .nx ρ' s1
    | none => .bad
  | .sub o i e, ρ, s => (ev c e ρ s).out fun d s1 => (ev c o ρ s1).out fun x s2 => (ev c i ρ s2).out fun y s3 => match subS s3 x y d with
    | some s4 => .nx ρ s4
    | none => .bad
  | .expr e, ρ, s => (ev c e ρ s).out fun _ s1 => .nx ρ s1
  | .ret e, ρ, s => (ev c e ρ s).out fun d s1 => .rt d s1
  | .retN, _, s => .rt .non s
  | .ite t a b, ρ, s => (evC c t ρ s).out fun k s1 => if k then exs c a ρ s1 else exs c b ρ s1
  | .for t it b, ρ, s => (evI c it ρ s).out fun ds s1 => forGo t (exs c b) ds ρ s1
  | .while t b, ρ, s => whGo (evC c t) (exs c b) c.fuel ρ s
  | .brk, ρ, s => .bk ρ s
  | .cont, ρ, s => .ct ρ s
  | .pass, ρ, s => .nx ρ s
def exs (c : Cxt) : Ss → Env → S → O
  | .nil, ρ, s => .nx ρ s
  | .cons st ss, ρ, s => (ex c st ρ s).bind fun ρ' s' => exs c ss ρ' s'
end

/-! ### defs -/
structure Fn where
  ps : Nat
  n : Nat
  body : Ss
  keep : Bool := false
structure Prg where
  fn : Str → Option Fn
  par : Str → Option (Option Str)
  con : Str → Option D
  sub : Str → Str → Option Bool
  fld : Str → Str → Bool
  fuel : Nat
mutual
/-- no changing object from n on is named -/
def D.low (n : Nat) : D → Bool
  | .ref k => decide (k < n)
  | .tup xs => D.lows n xs
  | .lst xs => D.lows n xs
  | .scr xs => D.lows n xs
  | .ins _ fs => D.lowF n fs
  | .exc _ fs => D.lowF n fs
  | _ => true
def D.lows (n : Nat) : List D → Bool
  | [] => true
  | d :: ds => D.low n d && D.lows n ds
def D.lowF (n : Nat) : List (Str × D) → Bool
  | [] => true
  | (_, d) :: ds => D.low n d && D.lowF n ds
end
def MO.low (n : Nat) : MO → Bool
  | .lst xs => D.lows n xs
  | .frz d => d.low n
  | .gone => true
def cutR (f : Fn) (s : S) (d : D) (s' : S) : Option S := if f.keep || s'.length == s.length then some s' else if d.low s.length && (s'.take s.length).all (MO.low s.length) then some (s'.take s.length) else none
def endR (f : Fn) (s : S) : O → R D
  | .rt d s' => match cutR f s d s' with
    | some t => .ok d t
    | none => .bad
  | .nx _ s' => match cutR f s .non s' with
    | some t => .ok .non t
    | none => .bad
  | .exn e s' => match cutR f s e s' with
    | some t => .exn e t
    | none => .bad
  | _ => .bad
def start (n : Nat) (ds : List D) : Env := ds.map some ++ List.replicate (n - ds.length) none
def Prg.ctx (P : Prg) (call : Str → List D → S → R D) : Cxt := ⟨fun f => (P.fn f).isSome, call, P.par, P.con, P.sub, P.fld, P.fuel⟩
def run (P : Prg) : Nat → Str → List D → S → R D
  | 0, _, _, _ => .bad
  | n + 1, f, ds, s => match P.fn f with
    | some F => if ds.length = F.ps ∧ F.ps ≤ F.n then endR F s (exs (P.ctx (run P n)) F.body (start F.n ds) s) else .bad
    | none => .bad
end NM
end

section
set_option linter.all false
set_option maxHeartbeats 1000000
set_option autoImplicit false
/-! NM: how plain values lie in the heap. -/
namespace NM
open PySem PyProof.Rows L2

/-- the written part and where the classes stand -/
structure Wr where
  K : PySem.W.Frag
  ty : Str → Option String
  cls : Str → Option Addr
  exc : Str → Option Addr

/-- the ghosts: where the changing objects stand, what is fixed -/
structure Gh where
  mu : List Addr
  G : Hp

mutual
inductive Rep (W : Wr) (g : Gh) : D → V → Prop where
  | non : Rep W g .non .non
  | bl (b : Bool) : Rep W g (.bl b) (.bl b)
  | int (i : Int) : Rep W g (.int i) (.int i)
  | str (x : Str) : Rep W g (.str x) (.str x)
  | tup {ds : List D} {a : Addr} {xs : List V} : SqT W.K g.G a xs → Reps W g ds xs → Rep W g (.tup ds) (.ref a)
  | lst {ds : List D} {a : Addr} {xs : List V} : g.G a = some (.lst xs) → Reps W g ds xs → Rep W g (.lst ds) (.ref a)
  | scr {ds : List D} {a : Addr} {xs : List V} : SqL W.K g.G a xs → Reps W g ds xs → Rep W g (.scr ds) (.ref a)
  | ins {c : Str} {fs : List (Str × D)} {a C dx : Addr} {vs : List (Str × V)} : W.cls c = some C → g.G a = some (.ins C dx vs) → RepF W g fs vs → Rep W g (.ins c fs) (.ref a)
  | exc {c : Str} {fs : List (Str × D)} {a C dx : Addr} {vs : List (Str × V)} : W.exc c = some C → g.G a = some (exo a C (some dx)) → g.G dx = some (exd dx vs) → RepF W g fs vs → Rep W g (.exc c fs) (.ref a)
  | ref {n : Nat} {a : Addr} : g.mu[n]? = some a → Rep W g (.ref n) (.ref a)
inductive Reps (W : Wr) (g : Gh) : List D → List V → Prop where
  | nil : Reps W g [] []
  | cons {d : D} {ds : List D} {v : V} {vs : List V} : Rep W g d v → Reps W g ds vs → Reps W g (d :: ds) (v :: vs)
inductive RepF (W : Wr) (g : Gh) : List (Str × D) → List (Str × V) → Prop where
  | nil : RepF W g [] []
  | cons {x : Str} {d : D} {fs : List (Str × D)} {v : V} {vs : List (Str × V)} : Rep W g d v → RepF W g fs vs → RepF W g ((x, d) :: fs) ((x, v) :: vs)
end

/-- the ghosts grow -/
structure Ext (g h : Gh) : Prop where
  mu : ∀ (n : Nat) (a : Addr), g.mu[n]? = some a → h.mu[n]? = some a
  G : ∀ a o, g.G a = some o → h.G a = some o
theorem Ext.refl {g : Gh} : Ext g g := ⟨fun _ _ h => h, fun _ _ h => h⟩
theorem Ext.trans {g h k : Gh} (a : Ext g h) (b : Ext h k) : Ext g k := ⟨fun n x e => b.mu n x (a.mu n x e), fun n x e => b.G n x (a.G n x e)⟩

theorem Rd.up {G H : Hp} (s : ∀ a o, G a = some o → H a = some o) {a : Addr} {u : HO} (h : Rd G a u) : Rd H a u := by
  rcases h with h | ⟨o, h⟩
  · exact .inl (s _ _ h)
  · exact .inr ⟨o, s _ _ h⟩
theorem SqL.up {K : PySem.W.Frag} {G H : Hp} (s : ∀ a o, G a = some o → H a = some o) {a : Addr} {xs : List V} (h : SqL K G a xs) : SqL K H a xs := by
  rcases h with h | h
  · exact .inl (Rd.up s h)
  · exact .inr h
theorem SqT.up {K : PySem.W.Frag} {G H : Hp} (s : ∀ a o, G a = some o → H a = some o) {a : Addr} {xs : List V} (h : SqT K G a xs) : SqT K H a xs := by
  rcases h with h | h
  · exact .inl (Rd.up s h)
  · exact .inr h

section
variable {W : Wr} {g h : Gh}
mutual
theorem Rep.up (x : Ext g h) : ∀ {d : D} {v : V}, Rep W g d v → Rep W h d v
  | _, _, .non => .non
  | _, _, .bl b => .bl b
  | _, _, .int i => .int i
  | _, _, .str s => .str s
  | _, _, .tup a r => .tup (SqT.up x.G a) (Reps.up x r)
  | _, _, .lst a r => .lst (x.G _ _ a) (Reps.up x r)
  | _, _, .scr a r => .scr (SqL.up x.G a) (Reps.up x r)
  | _, _, .ins c a r => .ins c (x.G _ _ a) (RepF.up x r)
  | _, _, .exc c a b r => .exc c (x.G _ _ a) (x.G _ _ b) (RepF.up x r)
  | _, _, .ref a => .ref (x.mu _ _ a)
theorem Reps.up (x : Ext g h) : ∀ {d : List D} {v : List V}, Reps W g d v → Reps W h d v
  | _, _, .nil => .nil
  | _, _, .cons a r => .cons (Rep.up x a) (Reps.up x r)
theorem RepF.up (x : Ext g h) : ∀ {d : List (Str × D)} {v : List (Str × V)}, RepF W g d v → RepF W h d v
  | _, _, .nil => .nil
  | _, _, .cons a r => .cons (Rep.up x a) (RepF.up x r)
end
theorem Reps.len : ∀ {d : List D} {v : List V}, Reps W g d v → v.length = d.length
  | _, _, .nil => rfl
  | _, _, .cons _ r => congrArg (· + 1) r.len
theorem Reps.get : ∀ {ds : List D} {vs : List V} {i : Nat} {d : D}, Reps W g ds vs → ds[i]? = some d → ∃ v, vs[i]? = some v ∧ Rep W g d v
  | _, _, i, _, .nil, e => by simp at e
  | _, _, 0, _, .cons a _, e => by simp at e; subst e; exact ⟨_, rfl, a⟩
  | _, _, i + 1, _, .cons _ r, e => by
    obtain ⟨v, h1, h2⟩ := Reps.get (i := i) r (by simpa using e)
    exact ⟨v, by simpa using h1, h2⟩
theorem Reps.app : ∀ {ds es : List D} {vs ws : List V}, Reps W g ds vs → Reps W g es ws → Reps W g (ds ++ es) (vs ++ ws)
  | _, _, _, _, .nil, s => s
  | _, _, _, _, .cons a r, s => .cons a (r.app s)
theorem Reps.drop : ∀ {ds : List D} {vs : List V} (n : Nat), Reps W g ds vs → Reps W g (ds.drop n) (vs.drop n)
  | _, _, 0, r => r
  | _, _, n + 1, .nil => .nil
  | _, _, n + 1, .cons _ r => r.drop n
theorem Reps.take : ∀ {ds : List D} {vs : List V} (n : Nat), Reps W g ds vs → Reps W g (ds.take n) (vs.take n)
  | _, _, 0, r => .nil
  | _, _, n + 1, .nil => .nil
  | _, _, n + 1, .cons a r => .cons a (r.take n)
theorem Reps.set : ∀ {ds : List D} {vs : List V} {d : D} {v : V} (n : Nat), Reps W g ds vs → Rep W g d v → Reps W g (ds.set n d) (vs.set n v)
  | _, _, _, _, _, .nil, _ => .nil
  | _, _, _, _, 0, .cons _ r, a => .cons a r
  | _, _, _, _, n + 1, .cons b r, a => .cons b (r.set n a)
theorem RepF.get : ∀ {fs : List (Str × D)} {vs : List (Str × V)} {x : Str} {d : D}, RepF W g fs vs → fs.lookup x = some d → ∃ v, vs.lookup x = some v ∧ Rep W g d v
  | _, _, _, _, .nil, e => by simp at e
  | (y, d0) :: fs, (_, v0) :: vs, x, d, .cons a r, e => by
    simp only [List.lookup_cons] at e ⊢
    split at e
    · cases e; exact ⟨_, rfl, a⟩
    · exact r.get e
end

/-- the locals -/
structure EnvR (W : Wr) (g : Gh) (ρ : Env) (σ : L2.St) : Prop where
  len : σ.length = ρ.length
  at_ : ∀ (i : Nat) (d : D), ρ[i]? = some (some d) → ∃ v, σ[i]? = some (some v) ∧ Rep W g d v
theorem EnvR.up {W : Wr} {g h : Gh} {ρ : Env} {σ : L2.St} (x : Ext g h) (e : EnvR W g ρ σ) : EnvR W h ρ σ :=
  ⟨e.len, fun i d q => let ⟨v, a, r⟩ := e.at_ i d q; ⟨v, a, r.up x⟩⟩
theorem EnvR.set {W : Wr} {g : Gh} {ρ : Env} {σ : L2.St} (e : EnvR W g ρ σ) (i : Nat) {d : D} {v : V} (r : Rep W g d v) : EnvR W g (ρ.set i (some d)) (σ.set i (some v)) := by
  refine ⟨by simp [e.len], fun j x q => ?_⟩
  by_cases h : i = j
  · subst h
    by_cases hl : i < ρ.length
    · rw [List.getElem?_set_self hl] at q
      cases q
      exact ⟨v, List.getElem?_set_self (by rw [e.len]; exact hl), r⟩
    · rw [List.getElem?_eq_none (by simpa using hl)] at q
      cases q
  · rw [List.getElem?_set_ne h] at q ⊢
    exact e.at_ j x q

/-- one changing object as it stands at a -/
def MoAt (W : Wr) (g : Gh) (H : Hp) (a : Addr) : MO → Prop
  | .lst ds => ∃ xs, H a = some (.lst xs) ∧ Reps W g ds xs ∧ g.G a = none
  | .frz d => Rep W g d (.ref a)
  | .gone => True
def Live : MO → Prop
  | .lst _ => True
  | _ => False
/-- the state -/
structure SR (W : Wr) (g : Gh) (H : Hp) (s : S) : Prop where
  sub : ∀ a o, g.G a = some o → H a = some o
  len : g.mu.length = s.length
  mo : ∀ (n : Nat) (m : MO), s[n]? = some m → ∃ a, g.mu[n]? = some a ∧ MoAt W g H a m
  ne : ∀ (n k : Nat) (m p : MO) (a : Addr), s[n]? = some m → s[k]? = some p → Live m → Live p → g.mu[n]? = some a → g.mu[k]? = some a → n = k
/-- a live object stands at a -/
def LiveAt (g : Gh) (s : S) (a : Addr) : Prop := ∃ (n : Nat) (m : MO), s[n]? = some m ∧ Live m ∧ g.mu[n]? = some a
/-- from one standing to a later one: the ghosts grow, the state is held, all else that stood stands -/
structure To (W : Wr) (g : Gh) (H : Hp) (s : S) (g' : Gh) (H' : Hp) (s' : S) : Prop where
  ext : Ext g g'
  st : SR W g' H' s'
  keep : ∀ a o, H a = some o → ¬ LiveAt g s a → H' a = some o ∧ ¬ LiveAt g' s' a
  fix : ∀ a o, H a = some o → ¬ LiveAt g s a → g.G a = none → g'.G a = none
theorem To.refl {W : Wr} {g : Gh} {H : Hp} {s : S} (r : SR W g H s) : To W g H s g H s := ⟨.refl, r, fun _ _ h n => ⟨h, n⟩, fun _ _ _ _ h => h⟩
theorem To.trans {W : Wr} {g g1 g2 : Gh} {H H1 H2 : Hp} {s s1 s2 : S} (a : To W g H s g1 H1 s1) (b : To W g1 H1 s1 g2 H2 s2) : To W g H s g2 H2 s2 :=
  ⟨a.ext.trans b.ext, b.st, fun x o h n => let z := a.keep x o h n; b.keep x o z.1 z.2, fun x o h n f => let z := a.keep x o h n; b.fix x o z.1 z.2 (a.fix x o h n f)⟩
end NM
end

section
set_option linter.all false
set_option maxHeartbeats 1000000
set_option autoImplicit false
/-! NM: the operations on values, over the layer. -/
namespace NM
open PySem PyProof.Rows L2

/-- a looked-up value, as it stands now -/
inductive Now (W : Wr) (g : Gh) (H : Hp) : D → V → Prop where
  | lst {ds : List D} {a : Addr} {xs : List V} : H a = some (.lst xs) → Reps W g ds xs → Now W g H (.lst ds) (.ref a)
  | rep {d : D} {v : V} : Rep W g d v → Now W g H d v

section
variable {W : Wr} {g : Gh} {H : Hp} {s : S}
theorem now_of (r : SR W g H s) {d : D} {v : V} (h : Rep W g d v) : Now W g H (look s d) v := by
  cases h with
  | ref hm =>
    rename_i n a
    show Now W g H (match s[n]? with | some (.lst xs) => .lst xs | some (.frz d) => d | _ => .ref n) (.ref a)
    cases e : s[n]? with
    | none => exact .rep (.ref hm)
    | some m =>
      obtain ⟨b, h1, h2⟩ := r.mo n m e
      rw [hm] at h1
      cases h1
      cases m with
      | lst xs =>
        obtain ⟨ys, h3, h4, _⟩ := h2
        exact .lst h3 h4
      | frz d => exact .rep h2
      | gone => exact .rep (.ref hm)
  | _ => exact .rep (by constructor <;> assumption)

theorem Now.int {i : Int} {v : V} (h : Now W g H (.int i) v) : v = .int i := by
  cases h with | rep h => cases h; rfl
theorem Now.str {x : Str} {v : V} (h : Now W g H (.str x) v) : v = .str x := by
  cases h with | rep h => cases h; rfl
theorem Now.bl {b : Bool} {v : V} (h : Now W g H (.bl b) v) : v = .bl b := by
  cases h with | rep h => cases h; rfl
theorem Now.non {v : V} (h : Now W g H .non v) : v = .non := by
  cases h with | rep h => cases h; rfl
theorem Now.asLst (r : ∀ a o, g.G a = some o → H a = some o) {ds : List D} {v : V} (h : Now W g H (.lst ds) v) : ∃ a xs, v = .ref a ∧ H a = some (.lst xs) ∧ Reps W g ds xs := by
  cases h with
  | lst h1 h2 => exact ⟨_, _, rfl, h1, h2⟩
  | rep h => cases h with | lst h1 h2 => exact ⟨_, _, rfl, r _ _ h1, h2⟩
theorem Now.asTup (r : ∀ a o, g.G a = some o → H a = some o) {ds : List D} {v : V} (h : Now W g H (.tup ds) v) : ∃ a xs, v = .ref a ∧ SqT W.K H a xs ∧ SqT W.K g.G a xs ∧ Reps W g ds xs := by
  cases h with
  | rep h => cases h with | tup h1 h2 => exact ⟨_, _, rfl, SqT.up r h1, h1, h2⟩
theorem Now.asScr (r : ∀ a o, g.G a = some o → H a = some o) {ds : List D} {v : V} (h : Now W g H (.scr ds) v) : ∃ a xs, v = .ref a ∧ SqL W.K H a xs ∧ Reps W g ds xs := by
  cases h with
  | rep h => cases h with | scr h1 h2 => exact ⟨_, _, rfl, SqL.up r h1, h2⟩

mutual
theorem dp_of (r : ∀ a o, g.G a = some o → H a = some o) : ∀ {d : D} {v : V} {p : PyData}, Rep W g d v → d.toP = some p → Dp W.K H v p
  | _, _, p, .non, e => by
    cases (show some PyData.none = some p from e)
    exact .non
  | _, _, p, .bl b, e => by
    cases (show some (PyData.bool b) = some p from e)
    exact .bl b
  | _, _, p, .int i, e => by
    cases (show some (PyData.int i) = some p from e)
    exact .int i
  | _, _, p, .str x, e => by
    cases (show some (PyData.str x) = some p from e)
    exact .str x
  | .tup ds, _, p, .tup a q, e => by
    have e' : (D.toPs ds).map PyData.tuple = some p := e
    cases h : D.toPs ds with
    | none => rw [h] at e'; cases e'
    | some ps =>
      rw [h] at e'
      cases e'
      exact .tup (SqT.up r a) (dps_of r q h)
  | .lst ds, _, p, .lst a q, e => by
    have e' : (D.toPs ds).map PyData.list = some p := e
    cases h : D.toPs ds with
    | none => rw [h] at e'; cases e'
    | some ps =>
      rw [h] at e'
      cases e'
      exact .lst (SqL.of (r _ _ a)) (dps_of r q h)
  | _, _, _, .ins _ _ _, e => nomatch (show (none : Option PyData) = _ from e)
  | _, _, _, .exc _ _ _ _, e => nomatch (show (none : Option PyData) = _ from e)
  | _, _, _, .ref _, e => nomatch (show (none : Option PyData) = _ from e)
  | _, _, _, .scr _ _, e => nomatch (show (none : Option PyData) = _ from e)
theorem dps_of (r : ∀ a o, g.G a = some o → H a = some o) : ∀ {ds : List D} {vs : List V} {ps : List PyData}, Reps W g ds vs → D.toPs ds = some ps → DpAll W.K H vs ps
  | _, _, ps, .nil, e => by
    cases (show some [] = some ps from e)
    exact .nil
  | d :: ds, _, ps, .cons a q, e => by
    cases h1 : D.toP d with
    | none => simp [D.toPs, h1] at e
    | some p =>
      cases h2 : D.toPs ds with
      | none => simp [D.toPs, h1, h2] at e
      | some qs =>
        simp [D.toPs, h1, h2] at e
        subst e
        exact .cons (dp_of r a h1) (dps_of r q h2)
end
theorem Now.dp (r : ∀ a o, g.G a = some o → H a = some o) {d : D} {v : V} {p : PyData} (h : Now W g H d v) (e : d.toP = some p) : Dp W.K H v p := by
  cases h with
  | rep h => exact dp_of r h e
  | lst a q =>
    rename_i ds _ _
    have e' : (D.toPs ds).map PyData.list = some p := e
    cases h : D.toPs ds with
    | none => rw [h] at e'; cases e'
    | some ps =>
      rw [h] at e'
      cases e'
      exact .lst (SqL.of a) (dps_of r q h)
end

/-- a new object is laid -/
def Gh.new (g : Gh) (p : Addr) (o : HO) : Gh := ⟨g.mu, upd g.G p o⟩
section
variable {W : Wr} {g : Gh} {H : Hp} {s : S} {p : Addr} {o : HO}
theorem SR.gnone (r : SR W g H s) (hp : H p = none) : g.G p = none := by
  cases e : g.G p with
  | none => rfl
  | some u => rw [r.sub _ _ e] at hp; cases hp
theorem ext_new (hp : g.G p = none) : Ext g (g.new p o) := ⟨fun _ _ h => h, fun a u h => by
  show upd g.G p o a = some u
  rw [upd_ne (ne_of_none h hp)]; exact h⟩
theorem SR.new (r : SR W g H s) (hp : H p = none) : SR W (g.new p o) (upd H p o) s := by
  have hg := r.gnone hp
  have x : Ext g (g.new p o) := ext_new hg
  refine ⟨fun a u h => ?_, r.len, fun n m e => ?_, r.ne⟩
  · by_cases ha : a = p
    · subst ha
      have h' : upd g.G a o a = some u := h
      rw [upd_same] at h' ⊢
      exact h'
    · have h' : upd g.G p o a = some u := h
      rw [upd_ne ha] at h' ⊢
      exact r.sub _ _ h'
  · obtain ⟨a, h1, h2⟩ := r.mo n m e
    refine ⟨a, h1, ?_⟩
    cases m with
    | lst ds =>
      obtain ⟨xs, h3, h4, h5⟩ := h2
      have ha : a ≠ p := ne_of_none h3 hp
      exact ⟨xs, by rw [upd_ne ha]; exact h3, h4.up x, by show upd g.G p o a = none; rw [upd_ne ha]; exact h5⟩
    | frz d => exact h2.up x
    | gone => trivial
theorem new_at : (g.new p o).G p = some o := upd_same
end

theorem SR.liveLt {W : Wr} {g : Gh} {H : Hp} {s : S} (r : SR W g H s) {a : Addr} (h : LiveAt g s a) : ∃ xs, H a = some (.lst xs) := by
  obtain ⟨n, m, h1, h2, h3⟩ := h
  obtain ⟨b, h4, h5⟩ := r.mo n m h1
  rw [h3] at h4
  cases h4
  cases m with
  | lst ds =>
    obtain ⟨xs, h6, _⟩ := h5
    exact ⟨xs, h6⟩
  | frz d => exact h2.elim
  | gone => exact h2.elim
/-- a new object is laid -/
theorem to_new {W : Wr} {g : Gh} {H : Hp} {s : S} (r : SR W g H s) {p : Addr} {o : HO} (hp : H p = none) : To W g H s (g.new p o) (upd H p o) s :=
  ⟨ext_new (r.gnone hp), r.new hp, fun a u h n => ⟨by rw [upd_ne (ne_of_none h hp)]; exact h, n⟩, fun a u h n f => by show upd g.G p o a = none; rw [upd_ne (ne_of_none h hp)]; exact f⟩
/-- what is wanted of a value d behind an operation -/
def Ret (W : Wr) (g : Gh) (s : S) (d : D) (H : Hp) (Q : VK) : Prop := ∀ g' v H', To W g H s g' H' s → Rep W g' d v → Q v H'
theorem Ret.same {W : Wr} {g : Gh} {s : S} {d : D} {H : Hp} {Q : VK} (h : Ret W g s d H Q) (r : SR W g H s) {v : V} (q : Rep W g d v) : Q v H := h g v H (.refl r) q
theorem Ret.lst {W : Wr} {g : Gh} {s : S} {ds : List D} {xs : List V} {H : Hp} {Q : VK} (h : Ret W g s (.lst ds) H Q) (r : SR W g H s) (q : Reps W g ds xs) (p : Addr) (hp : H p = none) : Q (.ref p) (upd H p (.lst xs)) :=
  h (g.new p (.lst xs)) _ _ (to_new r hp) (.lst new_at (q.up (ext_new (r.gnone hp))))
theorem Ret.tup {W : Wr} {g : Gh} {s : S} {ds : List D} {xs : List V} {H : Hp} {Q : VK} (h : Ret W g s (.tup ds) H Q) (r : SR W g H s) (q : Reps W g ds xs) (p : Addr) (hp : H p = none) : Q (.ref p) (upd H p (.tup xs)) :=
  h (g.new p (.tup xs)) _ _ (to_new r hp) (.tup (SqT.of new_at) (q.up (ext_new (r.gnone hp))))

theorem line_eq : sizeLine = line := sizeLine_eq

section
variable {X : Cx} {W : Wr}
/-- a + b and its like -/
def rBin (W : Wr) (op : Operator) : R2 := fun x y H Q => ∃ g s a b d, SR W g H s ∧ Rep W g a x ∧ Rep W g b y ∧ binD op (look s a) (look s b) = some d ∧ Ret W g s d H Q
theorem opr_bin (hK : W.K = X.K) (op : Operator) : OpR X (binaryOp op) (rBin W op) := by
  intro pins sh σ H x y v u Q I rx ry h
  obtain ⟨g, s, a, b, d, r, ra, rb, e, k⟩ := h
  have na := now_of r ra
  have nb := now_of r rb
  revert e na nb
  generalize look s a = a'
  generalize look s b = b'
  intro e na nb
  unfold binD at e
  split at e
  · cases na.int; cases nb.int; cases e
    exact op_add pins sh σ H _ _ v u Q I rx ry ⟨_, _, rfl, rfl, k.same r (.int _)⟩
  · cases na.int; cases nb.int; cases e
    exact op_sub pins sh σ H _ _ v u Q I rx ry ⟨_, _, rfl, rfl, k.same r (.int _)⟩
  · cases na.int; cases nb.int
    split at e
    · rename_i i j hc
      cases e
      refine op_mul pins sh σ H _ _ v u Q I rx ry ⟨_, _, rfl, rfl, ?_, k.same r (.int _)⟩
      simp only [fac, Bool.or_eq_true, decide_eq_true_eq] at hc
      unfold CMul
      omega
    · cases e
  · cases na.int; cases nb.int
    split at e
    · rename_i i j hc
      cases e
      refine op_fdivW pins sh σ H _ _ v u Q I rx ry ⟨_, _, rfl, rfl, ?_, k.same r (.int _)⟩
      simp only [small, decide_eq_true_eq] at hc
      exact wide_div (b := 62) hc.1 (by omega) (by decide) (by decide)
    · cases e
  · cases na.int; cases nb.int
    split at e
    · rename_i i j hc
      cases e
      simp only [small, decide_eq_true_eq] at hc
      exact op_mod pins sh σ H _ _ v u Q I rx ry ⟨_, _, rfl, rfl, hc.1, k.same r (.int _)⟩
    · cases e
  · cases na.int; cases nb.int
    split at e
    · rename_i i j hc
      cases e
      obtain ⟨h1, h2, h3⟩ := hc
      simp only [fac, decide_eq_true_eq] at h3
      exact op_pow pins sh σ H _ _ v u Q I rx ry ⟨_, _, rfl, rfl, ⟨h1, by omega, by omega⟩, k.same r (.int _)⟩
    · cases e
  · split at e
    · rename_i xs ys hc
      cases e
      obtain ⟨p, vs, rfl, h1, h2⟩ := na.asLst r.sub
      obtain ⟨q, ws, rfl, h3, h4⟩ := nb.asLst r.sub
      exact op_cat pins sh σ H _ _ v u Q I rx ry ⟨_, _, _, _, rfl, rfl, h1, h3, by rw [h2.len, h4.len, line_eq]; exact hc, fun z hz => k.lst r (h2.app h4) z hz⟩
    · cases e
  · split at e
    · rename_i xs ys hc
      cases e
      obtain ⟨p, vs, rfl, h1, h1', h2⟩ := na.asTup r.sub
      obtain ⟨q, ws, rfl, h3, h3', h4⟩ := nb.asTup r.sub
      refine op_catA pins sh σ H _ _ v u Q I rx ry ⟨_, _, _, _, rfl, rfl, hK ▸ h1, hK ▸ h3, by rw [h2.len, h4.len, line_eq]; exact hc, fun z => ?_, fun z z' => ?_, fun _ _ z hz => k.tup r (h2.app h4) z hz⟩
      · subst z
        cases h2
        exact k.same r (.tup h3' h4)
      · subst z'
        cases h4
        exact k.same r (.tup h1' (by simpa using h2))
    · cases e
  · split at e
    · rename_i x y hc
      cases e
      cases na.str; cases nb.str
      exact op_add_str pins sh σ H _ _ v u Q I rx ry ⟨_, _, rfl, rfl, by rw [line_eq]; exact hc, k.same r (.str _)⟩
    · cases e
  · split at e
    · rename_i xs i hc
      cases e
      obtain ⟨p, vs, rfl, h1, h2⟩ := na.asLst r.sub
      cases nb.int
      refine op_rep pins sh σ H _ _ v u Q I rx ry ⟨_, _, _, rfl, rfl, h1, by omega, by omega, by rw [h2.len, line_eq]; exact hc.2.2, fun z hz => k.lst r ?_ z hz⟩
      have : ∀ n : Nat, Reps W g (List.replicate n xs).flatten (List.replicate n vs).flatten := by
        intro n
        induction n with
        | zero => exact .nil
        | succ n ih => simpa [List.replicate_succ] using h2.app ih
      exact this _
    · cases e
  · cases e
end
end NM
end

section
set_option linter.all false
set_option maxHeartbeats 1000000
set_option autoImplicit false
/-! NM: comparisons, places, slices, built-ins, over the layer. -/
namespace NM
open PySem PyProof.Rows L2

section
variable {X : Cx} {W : Wr}

/-- a is None -/
theorem isNon_v {g : Gh} {H : Hp} {d : D} {v : V} (h : Now W g H d v) : decide (v = V.non) = (match d with | .non => true | _ => false) := by
  cases h with
  | lst _ _ => rfl
  | rep h => cases h <;> rfl

theorem flat_v {g : Gh} {H : Hp} {d : D} {v : V} (h : Rep W g d v) (f : flatD d = true) : flatV v = true := by
  cases h <;> first | rfl | cases f
theorem flats_v {g : Gh} {ds : List D} {vs : List V} (h : Reps W g ds vs) (f : ds.all flatD = true) : vs.all flatV = true := by
  induction ds generalizing vs with
  | nil => cases h; rfl
  | cons d ds ih =>
    cases h with
    | cons a r =>
      simp only [List.all_cons, Bool.and_eq_true] at f ⊢
      exact ⟨flat_v (H := fun _ => none) a f.1, ih r f.2⟩
theorem eqv_flat {g : Gh} {a b : D} {x y : V} {p q : PyData} (ha : Rep W g a x) (hb : Rep W g b y) (fa : flatD a = true) (fb : flatD b = true) (pa : a.toP = some p) (pb : b.toP = some q) : eqV x y = PyData.eqv p q := by
  cases ha <;> cases fa <;> cases hb <;> cases fb <;> cases pa <;> cases pb <;> first | rfl | simp [eqV, PyData.eqv]
theorem any_flat {g : Gh} {a : D} {x : V} {p : PyData} (ha : Rep W g a x) (fa : flatD a = true) (pa : a.toP = some p) : ∀ {ds : List D} {vs : List V} {ps : List PyData}, Reps W g ds vs → ds.all flatD = true → D.toPs ds = some ps →
    inV x vs = ps.any fun z => PyData.eqv z p
  | [], _, ps, .nil, _, e => by
    cases (show some [] = some ps from e)
    rfl
  | d :: ds, _, ps, .cons b r, f, e => by
    simp only [List.all_cons, Bool.and_eq_true] at f
    cases h1 : D.toP d with
    | none => simp [D.toPs, h1] at e
    | some q =>
      cases h2 : D.toPs ds with
      | none => simp [D.toPs, h1, h2] at e
      | some qs =>
        simp [D.toPs, h1, h2] at e
        subst e
        have ih := any_flat ha fa pa r f.2 h2
        unfold inV at ih ⊢
        rw [List.any_cons, List.any_cons, ih, eqv_flat b ha f.1 fa h1 pa]

/-- a comparison -/
def rCmp (W : Wr) (op : CmpOp) : R2 := fun x y H Q => ∃ g s a b k, SR W g H s ∧ Rep W g a x ∧ Rep W g b y ∧ cmpD op (look s a) (look s b) = some k ∧ Q (.bl k) H
theorem eqD_dp {g : Gh} {H : Hp} {s : S} (r : SR W g H s) {a b : D} {x y : V} {k : Bool} (na : Now W g H a x) (nb : Now W g H b y) (e : eqD a b = some k) :
    ∃ p q, Dp W.K H x p ∧ Dp W.K H y q ∧ SeqAt.shaped p = true ∧ SeqAt.shaped q = true ∧ PyData.eqv p q = k := by
  unfold eqD at e
  split at e
  · rename_i p q h1 h2
    split at e
    · rename_i h3
      cases e
      exact ⟨p, q, na.dp r.sub h1, nb.dp r.sub h2, h3.1, h3.2, rfl⟩
    · cases e
  · cases e
/-- what in asks -/
def rInB (W : Wr) (op : CmpOp) (neg : Bool) : Prop := True
theorem opr_in (hK : W.K = X.K) (hu : X.A.units + 65 < cLine) : OpR X (compareOp .In) (rCmp W .In) := by
  intro pins sh σ H x y v u Q I rx ry h
  obtain ⟨g, s, a, b, k, r, ra, rb, e, q⟩ := h
  have na := now_of r ra
  have nb := now_of r rb
  revert e na nb
  generalize look s a = a'
  generalize look s b = b'
  intro e na nb
  have e' : inD a' b' = some k := e
  clear e
  unfold inD at e'
  split at e'
  · split at e'
    · rename_i ys p ps h1 h2
      split at e'
      · rename_i h3
        cases e'
        exact op_inD hu pins sh σ H _ _ v u Q I rx ry ⟨p, ps, hK ▸ na.dp r.sub h1, hK ▸ nb.dp r.sub (by simp [D.toP, h2]), h3.1, h3.2, q⟩
      · cases e'
    · cases e'
  · split at e'
    · rename_i ys h0
      simp only [Bool.and_eq_true] at h0
      split at e'
      · rename_i p ps h1 h2
        cases e'
        obtain ⟨c, xs, rfl, h3, h3', h4⟩ := nb.asTup r.sub
        have na' : Rep W g a' x := by
          cases na with
          | rep h => exact h
          | lst _ _ => cases h0.1
        refine op_in_seq pins sh σ H _ _ v u Q I rx ry ⟨c, xs, rfl, .inr (hK ▸ h3), flat_v (H := H) na' h0.1, flats_v h4 h0.2, ?_⟩
        rw [any_flat na' h0.1 h1 h4 h0.2 h2]
        exact q
      · cases e'
    · cases e'
  · split at e'
    · cases e'
      cases na.str; cases nb.str
      exact op_in_str pins sh σ H _ _ v u Q I rx ry ⟨_, _, rfl, rfl, q⟩
    · cases e'
  · cases e'
theorem opr_notin (hK : W.K = X.K) (hu : X.A.units + 65 < cLine) : OpR X (compareOp .NotIn) (rCmp W .NotIn) := by
  intro pins sh σ H x y v u Q I rx ry h
  obtain ⟨g, s, a, b, k, r, ra, rb, e, q⟩ := h
  have na := now_of r ra
  have nb := now_of r rb
  revert e na nb
  generalize look s a = a'
  generalize look s b = b'
  intro e na nb
  have e1 : (inD a' b').map (!·) = some k := e
  cases e' : inD a' b' with
  | none => rw [e'] at e1; cases e1
  | some k' =>
  rw [e'] at e1
  cases e1
  clear e
  unfold inD at e'
  split at e'
  · split at e'
    · rename_i ys p ps h1 h2
      split at e'
      · rename_i h3
        cases e'
        exact op_notInD hu pins sh σ H _ _ v u Q I rx ry ⟨p, ps, hK ▸ na.dp r.sub h1, hK ▸ nb.dp r.sub (by simp [D.toP, h2]), h3.1, h3.2, q⟩
      · cases e'
    · cases e'
  · split at e'
    · rename_i ys h0
      simp only [Bool.and_eq_true] at h0
      split at e'
      · rename_i p ps h1 h2
        cases e'
        obtain ⟨c, xs, rfl, h3, h3', h4⟩ := nb.asTup r.sub
        have na' : Rep W g a' x := by
          cases na with
          | rep h => exact h
          | lst _ _ => cases h0.1
        refine op_notIn_seq pins sh σ H _ _ v u Q I rx ry ⟨c, xs, rfl, .inr (hK ▸ h3), flat_v (H := H) na' h0.1, flats_v h4 h0.2, ?_⟩
        rw [any_flat na' h0.1 h1 h4 h0.2 h2]
        exact q
      · cases e'
    · cases e'
  · split at e'
    · cases e'
      cases na.str; cases nb.str
      exact op_notIn_str pins sh σ H _ _ v u Q I rx ry ⟨_, _, rfl, rfl, q⟩
    · cases e'
  · cases e'
theorem opr_cmp (hK : W.K = X.K) (hu : X.A.units + 65 < cLine) (op : CmpOp) : OpR X (compareOp op) (rCmp W op) := by
  cases op with
  | In => exact opr_in hK hu
  | NotIn => exact opr_notin hK hu
  | Eq =>
    intro pins sh σ H x y v u Q I rx ry ⟨g, s, a, b, k, r, ra, rb, e, q⟩
    obtain ⟨p, p', h1, h2, h3, h4, h5⟩ := eqD_dp r (now_of r ra) (now_of r rb) e
    exact op_eqD (by omega) pins sh σ H x y v u Q I rx ry ⟨p, p', hK ▸ h1, hK ▸ h2, h3, h4, by rw [h5]; exact q⟩
  | NotEq =>
    intro pins sh σ H x y v u Q I rx ry ⟨g, s, a, b, k, r, ra, rb, e, q⟩
    have e1 : (eqD (look s a) (look s b)).map (!·) = some k := e
    cases e2 : eqD (look s a) (look s b) with
    | none => rw [e2] at e1; cases e1
    | some k' =>
      rw [e2] at e1
      cases e1
      obtain ⟨p, p', h1, h2, h3, h4, h5⟩ := eqD_dp r (now_of r ra) (now_of r rb) e2
      exact op_neD (by omega) pins sh σ H x y v u Q I rx ry ⟨p, p', hK ▸ h1, hK ▸ h2, h3, h4, by rw [h5]; exact q⟩
  | Lt =>
    intro pins sh σ H x y v u Q I rx ry ⟨g, s, a, b, k, r, ra, rb, e, q⟩
    have na := now_of r ra
    have nb := now_of r rb
    revert e na nb
    generalize look s a = a'
    generalize look s b = b'
    intro e na nb
    simp only [cmpD] at e
    split at e
    · cases na.int; cases nb.int; cases e
      exact op_lt pins sh σ H _ _ v u Q I rx ry ⟨_, _, rfl, rfl, q⟩
    · cases e
  | LtE =>
    intro pins sh σ H x y v u Q I rx ry ⟨g, s, a, b, k, r, ra, rb, e, q⟩
    have na := now_of r ra
    have nb := now_of r rb
    revert e na nb
    generalize look s a = a'
    generalize look s b = b'
    intro e na nb
    simp only [cmpD] at e
    split at e
    · cases na.int; cases nb.int; cases e
      exact op_le pins sh σ H _ _ v u Q I rx ry ⟨_, _, rfl, rfl, q⟩
    · cases e
  | Gt =>
    intro pins sh σ H x y v u Q I rx ry ⟨g, s, a, b, k, r, ra, rb, e, q⟩
    have na := now_of r ra
    have nb := now_of r rb
    revert e na nb
    generalize look s a = a'
    generalize look s b = b'
    intro e na nb
    simp only [cmpD] at e
    split at e
    · cases na.int; cases nb.int; cases e
      exact op_gt pins sh σ H _ _ v u Q I rx ry ⟨_, _, rfl, rfl, q⟩
    · cases e
  | GtE =>
    intro pins sh σ H x y v u Q I rx ry ⟨g, s, a, b, k, r, ra, rb, e, q⟩
    have na := now_of r ra
    have nb := now_of r rb
    revert e na nb
    generalize look s a = a'
    generalize look s b = b'
    intro e na nb
    simp only [cmpD] at e
    split at e
    · cases na.int; cases nb.int; cases e
      exact op_ge pins sh σ H _ _ v u Q I rx ry ⟨_, _, rfl, rfl, q⟩
    · cases e
  | Is =>
    intro pins sh σ H x y v u Q I rx ry ⟨g, s, a, b, k, r, ra, rb, e, q⟩
    have na := now_of r ra
    have nb := now_of r rb
    revert e na nb
    generalize look s a = a'
    generalize look s b = b'
    intro e na nb
    have hx := isNon_v na
    simp only [cmpD] at e
    split at e
    · cases nb.non
      refine op_isN pins sh σ H _ _ v u Q I rx ry ⟨rfl, ?_⟩
      rw [hx]
      cases a' <;> (cases e; exact q)
    · cases e
  | IsNot =>
    intro pins sh σ H x y v u Q I rx ry ⟨g, s, a, b, k, r, ra, rb, e, q⟩
    have na := now_of r ra
    have nb := now_of r rb
    revert e na nb
    generalize look s a = a'
    generalize look s b = b'
    intro e na nb
    have hx := isNon_v na
    simp only [cmpD] at e
    split at e
    · cases nb.non
      refine op_notN pins sh σ H _ _ v u Q I rx ry ⟨rfl, ?_⟩
      rw [hx]
      cases a' <;> (cases e; exact q)
    · cases e
end
end NM
end

section
set_option linter.all false
set_option maxHeartbeats 1000000
set_option autoImplicit false
/-! NM: places, slices, truth, lengths, over the layer. -/
namespace NM
open PySem PyProof.Rows L2

theorem atI_rep {W : Wr} {g : Gh} {ds : List D} {vs : List V} (r : Reps W g ds vs) {i : Int} {d : D} (e : atI ds i = some d) : ∃ v, atI vs i = some v ∧ Rep W g d v := by
  unfold atI at e ⊢
  rw [r.len]
  cases h : ixN ds.length i with
  | none => rw [h] at e; cases e
  | some j =>
    rw [h] at e
    exact r.get e
theorem cut_rep {W : Wr} {g : Gh} {ds : List D} {vs : List V} (r : Reps W g ds vs) (lo hi : Option Int) : Reps W g (cutD ds lo hi) (cutV vs lo hi) := by
  unfold cutD cutV
  rw [r.len]
  exact (r.drop _).take _

section
variable {X : Cx} {W : Wr}
def rIdx (W : Wr) : R2 := fun x y H Q => ∃ g s a i d, SR W g H s ∧ Rep W g a x ∧ Rep W g i y ∧ idxD (look s a) i = some d ∧ Ret W g s d H Q
theorem ixr_idx (hK : W.K = X.K) : IxR X (rIdx W) := by
  intro ve se pins sh σ H x y v u Q I rx ry h hsub
  obtain ⟨g, s, a, i, d, r, ra, ri, e, k⟩ := h
  have na := now_of r ra
  revert e na
  generalize look s a = a'
  intro e na
  unfold idxD at e
  split at e
  · rename_i i
    cases ri
    split at e
    · obtain ⟨p, xs, rfl, h1, h2⟩ := na.asLst r.sub
      obtain ⟨w, h3, h4⟩ := atI_rep h2 e
      exact ix_list ve se pins sh σ H _ _ v u Q I rx ry ⟨p, xs, i, w, rfl, rfl, SqL.of h1, h3, k.same r h4⟩ hsub
    · obtain ⟨p, xs, rfl, h1, _, h2⟩ := na.asTup r.sub
      obtain ⟨w, h3, h4⟩ := atI_rep h2 e
      exact ix_tup ve se pins sh σ H _ _ v u Q I rx ry ⟨p, xs, i, w, rfl, rfl, hK ▸ h1, h3, k.same r h4⟩ hsub
    · rename_i z
      split at e
      · rename_i hz
        cases na.str
        cases h : atI z.cps.toList i with
        | none => rw [h] at e; cases e
        | some c =>
          rw [h] at e
          cases e
          exact ix_str ve se pins sh σ H _ _ v u Q I rx ry ⟨z, i, c, rfl, rfl, by rw [line_eq]; exact hz, h, k.same r (.str _)⟩ hsub
      · cases e
    · cases e
  · cases e
def rSlc (W : Wr) : V → Option Int → Option Int → Hp → VK → Prop := fun x lo hi H Q => ∃ g s a d, SR W g H s ∧ Rep W g a x ∧ slcD (look s a) lo hi = some d ∧ Ret W g s d H Q
theorem slr_slc (hK : W.K = X.K) : SlR X (rSlc W) := by
  intro pins sh σ H x v vl vu lo hi sl Q I rx hs pl pu h
  obtain ⟨g, s, a, d, r, ra, e, k⟩ := h
  have na := now_of r ra
  revert e na
  generalize look s a = a'
  intro e na
  unfold slcD at e
  split at e
  · cases e
    obtain ⟨p, xs, rfl, h1, h2⟩ := na.asLst r.sub
    exact sl_list pins sh σ H _ v vl vu lo hi sl Q I rx hs pl pu ⟨p, xs, rfl, SqL.of h1, fun q hq => k.lst r (cut_rep h2 lo hi) q hq⟩
  · cases e
    obtain ⟨p, xs, rfl, h1, h2⟩ := na.asScr r.sub
    exact sl_list pins sh σ H _ v vl vu lo hi sl Q I rx hs pl pu ⟨p, xs, rfl, hK ▸ h1, fun q hq => k.lst r (cut_rep h2 lo hi) q hq⟩
  · rename_i ds
    cases e
    obtain ⟨p, xs, rfl, h1, h1', h2⟩ := na.asTup r.sub
    refine sl_tupA pins sh σ H _ v vl vu lo hi sl Q I rx hs pl pu ⟨p, xs, rfl, hK ▸ h1, fun z => ?_, fun _ q hq => k.tup r (cut_rep h2 lo hi) q hq⟩
    have e : cutD ds lo hi = ds := by
      unfold cutD
      rw [h2.len] at z
      rw [z.1, z.2]
      simp
    rw [e] at k
    exact k.same r (.tup h1' h2)
  · rename_i z
    split at e
    · rename_i hz
      cases e
      cases na.str
      exact sl_str pins sh σ H _ v vl vu lo hi sl Q I rx hs pl pu ⟨z, rfl, by rw [line_eq]; exact hz, k.same r (.str _)⟩
    · cases e
  · cases e
def rTru (W : Wr) : V → Hp → (Bool → Hp → Prop) → Prop := fun x H Q => ∃ g s a k, SR W g H s ∧ Rep W g a x ∧ truD (look s a) = some k ∧ Q k H
theorem isEmpty_rep {g : Gh} {ds : List D} {vs : List V} (r : Reps W g ds vs) : (!vs.isEmpty) = !ds.isEmpty := by
  cases r <;> rfl
theorem tru_v {g : Gh} {H : Hp} {s : S} {a : D} {x : V} {k : Bool} (hK : W.K = X.K) (r : SR W g H s) (na : Now W g H a x) (e : truD a = some k) : TruV X.K x H k := by
  unfold truD at e
  split at e
  · cases na.non; cases e; rfl
  · cases na.bl; cases e; rfl
  · cases na.int; cases e; rfl
  · cases e
    obtain ⟨p, xs, rfl, h1, h2⟩ := na.asLst r.sub
    exact .inl ⟨xs, SqL.of h1, (isEmpty_rep h2).symm⟩
  · cases e
    obtain ⟨p, xs, rfl, h1, _, h2⟩ := na.asTup r.sub
    exact .inr (.inl ⟨xs, hK ▸ h1, (isEmpty_rep h2).symm⟩)
  · cases e
theorem trr_tru (hK : W.K = X.K) : TruR X (rTru W) := by
  intro pins sh σ H x v Q I rx h
  obtain ⟨g, s, a, k, r, ra, e, q⟩ := h
  exact tru_ok pins sh σ H x v Q I rx ⟨k, tru_v hK r (now_of r ra) e, q⟩
theorem len_v {g : Gh} {H : Hp} {s : S} {a : D} {x : V} {n : Nat} (hK : W.K = X.K) (r : SR W g H s) (na : Now W g H a x) (e : lenD a = some n) : LenV X.K x H n := by
  unfold lenD at e
  split at e
  · cases e
    obtain ⟨p, xs, rfl, h1, h2⟩ := na.asLst r.sub
    exact .inl ⟨xs, SqL.of h1, h2.len.symm⟩
  · cases e
    obtain ⟨p, xs, rfl, h1, _, h2⟩ := na.asTup r.sub
    exact .inr ⟨xs, hK ▸ h1, h2.len.symm⟩
  · split at e
    · rename_i hz
      cases e
      cases na.str
      exact ⟨by rw [line_eq]; exact hz, rfl⟩
    · cases e
  · cases e

/-- arguments, looked up -/
inductive Nows (W : Wr) (g : Gh) (H : Hp) : List D → List V → Prop where
  | nil : Nows W g H [] []
  | cons {d : D} {ds : List D} {v : V} {vs : List V} : Now W g H d v → Nows W g H ds vs → Nows W g H (d :: ds) (v :: vs)
theorem nows_of {g : Gh} {H : Hp} {s : S} (r : SR W g H s) : ∀ {ds : List D} {vs : List V}, Reps W g ds vs → Nows W g H (ds.map (look s)) vs
  | _, _, .nil => .nil
  | _, _, .cons a q => .cons (now_of r a) (nows_of r q)
theorem bools_rep {g : Gh} : ∀ {ds : List D} {vs : List V} {bs : List Bool}, Reps W g ds vs → boolsD ds = some bs → vs = bs.map V.bl
  | _, _, bs, .nil, e => by
    cases (show some [] = some bs from e)
    rfl
  | _, _, bs, .cons a q, e => by
    cases a <;> first | (cases e; done) | skip
    rename_i b
    have e' : (boolsD _).map (b :: ·) = some bs := e
    cases h : boolsD _ with
    | none => rw [h] at e'; cases e'
    | some cs =>
      rw [h] at e'
      cases e'
      rw [bools_rep q h]
      rfl
end
end NM
end

section
set_option linter.all false
set_option maxHeartbeats 1000000
set_option autoImplicit false
/-! NM: expressions, over the layer. -/
namespace NM
open PySem PyProof.Rows L2

/-- what is wanted of an exception: it, the state, the ghosts, the slots, the heap -/
abbrev XW := D → S → Gh → L2.St → Hp → Prop
def Fin (W : Wr) (x : XW) (σ : L2.St) {α : Type} (g : Gh) (H : Hp) (s : S) (K : α → S → Gh → Hp → Prop) : R α → Prop
  | .ok a s' => ∀ g' H', To W g H s g' H' s' → K a s' g' H'
  | .exn e s' => ∀ g' H', To W g H s g' H' s' → x e s' g' σ H'
  | .bad => False
section
variable {W : Wr} {x : XW} {σ : L2.St} {α β : Type} {g : Gh} {H : Hp} {s : S}
theorem Fin.up {g1 : Gh} {H1 : Hp} {s1 : S} {K : α → S → Gh → Hp → Prop} {r : R α} (e : To W g H s g1 H1 s1) (f : Fin W x σ g H s K r) : Fin W x σ g1 H1 s1 K r := by
  cases r with
  | ok a s => exact fun g' H' e' => f g' H' (e.trans e')
  | exn d s => exact fun g' H' e' => f g' H' (e.trans e')
  | bad => exact f
theorem Fin.mono {K K' : α → S → Gh → Hp → Prop} {r : R α} (f : Fin W x σ g H s K r) (h : ∀ a s' g' H', To W g H s g' H' s' → K a s' g' H' → K' a s' g' H') : Fin W x σ g H s K' r := by
  cases r with
  | ok a s => exact fun g' H' e' => h _ _ _ _ e' (f g' H' e')
  | exn d s => exact f
  | bad => exact f
theorem Fin.bind {K : β → S → Gh → Hp → Prop} {m : R α} {f : α → S → R β} (h : Fin W x σ g H s K (m.bind f)) : Fin W x σ g H s (fun a s1 g1 H1 => Fin W x σ g1 H1 s1 K (f a s1)) m := by
  cases m with
  | ok a s1 => exact fun g' H' e' => Fin.up e' (show Fin W x σ g H s K (f a s1) from h)
  | exn d s => exact h
  | bad => exact h
theorem Fin.lift {K : α → S → Gh → Hp → Prop} {o : Option α} {s' : S} (h : Fin W x σ g H s K (lift o s')) : ∃ a, o = some a ∧ ∀ g' H', To W g H s g' H' s' → K a s' g' H' := by
  cases o with
  | some a => exact ⟨a, rfl, h⟩
  | none => exact False.elim h
end

def RdE (W : Wr) (x : XW) (m : Env → S → R D) : TE := fun σ H Q => ∃ g ρ s, EnvR W g ρ σ ∧ SR W g H s ∧ Fin W x σ g H s (fun d _ g' H' => ∀ v, Rep W g' d v → Q v H') (m ρ s)
def RdC (W : Wr) (x : XW) (m : Env → S → R Bool) : TT := fun σ H Q => ∃ g ρ s, EnvR W g ρ σ ∧ SR W g H s ∧ Fin W x σ g H s (fun k _ _ H' => Q k H') (m ρ s)
def RdA (W : Wr) (x : XW) (m : Env → S → R (List D)) : TA := fun σ H Q => ∃ g ρ s, EnvR W g ρ σ ∧ SR W g H s ∧ Fin W x σ g H s (fun ds _ g' H' => ∀ vs, Reps W g' ds vs → Q vs H') (m ρ s)
theorem _root_.L2.PE.imp {X : Cx} {e : Expr} {t t' : TE} (h : PE X e t) (i : ∀ σ H Q, t' σ H Q → t σ H Q) : PE X e t' := ⟨fun pins s σ H Q I q => h.run pins s σ H Q I (i σ H Q q)⟩
theorem _root_.L2.PT.imp {X : Cx} {e : Expr} {t t' : TT} (h : PT X e t) (i : ∀ σ H Q, t' σ H Q → t σ H Q) : PT X e t' := ⟨fun pins s σ H Q I q => h.run pins s σ H Q I (i σ H Q q)⟩
theorem _root_.L2.PW.imp {X : Cx} {e : Expr} {t t' : TT} (h : PW X e t) (i : ∀ σ H Q, t' σ H Q → t σ H Q) : PW X e t' := ⟨fun wh pins s σ H Q I q => h.run wh pins s σ H Q I (i σ H Q q)⟩
theorem _root_.L2.PA.imp {X : Cx} {es : List Expr} {t t' : TA} (h : PA X es t) (i : ∀ σ H Q, t' σ H Q → t σ H Q) : PA X es t' := ⟨fun pos pins s σ H Q I q => h.run pos pins s σ H Q I (i σ H Q q)⟩

section
variable {W : Wr} {x : XW} {σ : L2.St} {H : Hp}
theorem RdE.mono {m : Env → S → R D} {Q Q' : VK} (h : RdE W x m σ H Q) (i : ∀ v H1, Q v H1 → Q' v H1) : RdE W x m σ H Q' := by
  obtain ⟨g, ρ, s, e, r, f⟩ := h
  exact ⟨g, ρ, s, e, r, f.mono fun _ _ _ _ _ k v q => i _ _ (k v q)⟩
theorem RdC.mono {m : Env → S → R Bool} {Q Q' : Bool → Hp → Prop} (h : RdC W x m σ H Q) (i : ∀ v H1, Q v H1 → Q' v H1) : RdC W x m σ H Q' := by
  obtain ⟨g, ρ, s, e, r, f⟩ := h
  exact ⟨g, ρ, s, e, r, f.mono fun _ _ _ _ _ k => i _ _ k⟩
theorem RdA.mono {m : Env → S → R (List D)} {Q Q' : List V → Hp → Prop} (h : RdA W x m σ H Q) (i : ∀ v H1, Q v H1 → Q' v H1) : RdA W x m σ H Q' := by
  obtain ⟨g, ρ, s, e, r, f⟩ := h
  exact ⟨g, ρ, s, e, r, f.mono fun _ _ _ _ _ k v q => i _ _ (k v q)⟩
end
/-- where one stands behind a part -/
structure Aft (W : Wr) (x : XW) (σ : L2.St) {β : Type} (K : β → S → Gh → Hp → Prop) (g0 : Gh) (H0 : Hp) (s0 : S) (ρ : Env) (H1 : Hp) (r : R β) (g1 : Gh) (s1 : S) : Prop where
  to : To W g0 H0 s0 g1 H1 s1
  env : EnvR W g1 ρ σ
  fin : Fin W x σ g1 H1 s1 K r
section
variable {W : Wr} {x : XW} {σ : L2.St} {H : Hp} {β : Type} {g : Gh} {ρ : Env} {s : S} {K : β → S → Gh → Hp → Prop}
theorem stepE {m : Env → S → R D} {f : D → S → R β} (e : EnvR W g ρ σ) (r : SR W g H s) (h : Fin W x σ g H s K ((m ρ s).bind f)) :
    RdE W x m σ H fun v H1 => ∃ d g1 s1, Rep W g1 d v ∧ Aft W x σ K g H s ρ H1 (f d s1) g1 s1 :=
  ⟨g, ρ, s, e, r, h.bind.mono fun d s1 g1 H1 t f1 v q => ⟨d, g1, s1, q, t, e.up t.ext, f1⟩⟩
theorem stepC {m : Env → S → R Bool} {f : Bool → S → R β} (e : EnvR W g ρ σ) (r : SR W g H s) (h : Fin W x σ g H s K ((m ρ s).bind f)) :
    RdC W x m σ H fun k H1 => ∃ g1 s1, Aft W x σ K g H s ρ H1 (f k s1) g1 s1 :=
  ⟨g, ρ, s, e, r, h.bind.mono fun d s1 g1 H1 t f1 => ⟨g1, s1, t, e.up t.ext, f1⟩⟩
theorem stepA {m : Env → S → R (List D)} {f : List D → S → R β} (e : EnvR W g ρ σ) (r : SR W g H s) (h : Fin W x σ g H s K ((m ρ s).bind f)) :
    RdA W x m σ H fun vs H1 => ∃ ds g1 s1, Reps W g1 ds vs ∧ Aft W x σ K g H s ρ H1 (f ds s1) g1 s1 :=
  ⟨g, ρ, s, e, r, h.bind.mono fun d s1 g1 H1 t f1 v q => ⟨d, g1, s1, q, t, e.up t.ext, f1⟩⟩
end

section
variable {X : Cx} {W : Wr} {x : XW} {c : Cxt}
/-- the reading of an expression -/
abbrev Ex (X : Cx) (W : Wr) (x : XW) (c : Cxt) (e : Expr) (m : E) : Prop := PE X e (RdE W x (ev c m))
abbrev Tx (X : Cx) (W : Wr) (x : XW) (c : Cxt) (e : Expr) (m : C) : Prop := PT X e (RdC W x (evC c m))
abbrev Ax (X : Cx) (W : Wr) (x : XW) (c : Cxt) (es : List Expr) (m : Es) : Prop := PA X es (RdA W x (evs c m))

theorem ex_const {e : Expr} {d : D} {v : V} (h : PE X e (tC v)) (r : ∀ g, Rep W g d v) : Ex X W x c e (.k d) :=
  h.imp fun σ H Q ⟨g, ρ, s, _, q, f⟩ => f g H (.refl q) v (r g)
theorem ex_var {i : Nat} {e : Expr} (h : PE X e (tVar i)) : Ex X W x c e (.v i) := h.imp fun σ H Q ⟨g, ρ, s, en, q, f⟩ => by
  have f' : Fin W x σ g H s _ (match ρ[i]? with | some (some d) => R.ok d s | _ => R.bad) := f
  split at f'
  · rename_i d h
    obtain ⟨v, h1, h2⟩ := en.at_ i d h
    exact ⟨v, h1, f' g H (.refl q) v h2⟩
  · exact f'.elim
theorem ex_glob {n : Str} {e : Expr} {v : V} (h : PE X e (tC v)) (r : ∀ d, c.con n = some d → ∀ g, Rep W g d v) : Ex X W x c e (.g n) := h.imp fun σ H Q ⟨g, ρ, s, en, q, f⟩ => by
  obtain ⟨d, h1, h2⟩ := Fin.lift (show Fin W x σ g H s _ (lift (c.con n) s) from f)
  exact h2 g H (.refl q) v (r d h1 g)
variable {a b d : Expr} {ma mb md : E} {pos : Pos}
theorem ex_bin (hK : W.K = X.K) {op : Operator} (ha : Ex X W x c a ma) (hb : Ex X W x c b mb) : Ex X W x c (.BinOp a op b pos) (.bin op ma mb) :=
  (pe_op (opr_bin hK op) ha hb).imp fun σ H Q ⟨g, ρ, s, en, q, f⟩ => by
    refine (stepE en q f).mono fun v H1 ⟨d1, g1, s1, r1, a1⟩ => ?_
    refine (stepE a1.env a1.to.st a1.fin).mono fun w H2 ⟨d2, g2, s2, r2, a2⟩ => ?_
    obtain ⟨d3, h1, h2⟩ := Fin.lift a2.fin
    exact ⟨g2, s2, d1, d2, d3, a2.to.st, r1.up a2.to.ext, r2, h1, fun g' v' H' t' rv => h2 g' H' t' v' rv⟩
theorem ex_neg (ha : Ex X W x c a ma) : Ex X W x c (.UnaryOp .USub a pos) (.neg ma) :=
  (pe_un un_neg ha).imp fun σ H Q ⟨g, ρ, s, en, q, f⟩ => by
    refine (stepE en q f).mono fun v H1 ⟨d1, g1, s1, r1, a1⟩ => ?_
    have f1 := a1.fin
    split at f1
    · cases r1
      exact ⟨_, rfl, f1 g1 H1 (.refl a1.to.st) _ (.int _)⟩
    · exact f1.elim
theorem ex_and {rest : List Expr} (ha : Ex X W x c a ma) (hb : Ex X W x c (.BoolOp .And (b :: rest) pos) mb) : Ex X W x c (.BoolOp .And (a :: b :: rest) pos) (.and ma mb) :=
  (pe_and ha hb).imp fun σ H Q ⟨g, ρ, s, en, q, f⟩ => by
    refine (stepE en q f).mono fun v H1 ⟨d1, g1, s1, r1, a1⟩ => ?_
    have f1 := a1.fin
    split at f1
    · rename_i k
      cases r1
      refine ⟨k, rfl, ?_⟩
      cases k with
      | true => exact ⟨g1, ρ, s1, a1.env, a1.to.st, f1⟩
      | false => exact f1 g1 H1 (.refl a1.to.st) _ (.bl false)
    · exact f1.elim
theorem ex_or {rest : List Expr} (ha : Ex X W x c a ma) (hb : Ex X W x c (.BoolOp .Or (b :: rest) pos) mb) : Ex X W x c (.BoolOp .Or (a :: b :: rest) pos) (.or ma mb) :=
  (pe_or ha hb).imp fun σ H Q ⟨g, ρ, s, en, q, f⟩ => by
    refine (stepE en q f).mono fun v H1 ⟨d1, g1, s1, r1, a1⟩ => ?_
    have f1 := a1.fin
    split at f1
    · rename_i k
      cases r1
      refine ⟨k, rfl, ?_⟩
      cases k with
      | false => exact ⟨g1, ρ, s1, a1.env, a1.to.st, f1⟩
      | true => exact f1 g1 H1 (.refl a1.to.st) _ (.bl true)
    · exact f1.elim
theorem ex_not (ha : Ex X W x c a ma) : Ex X W x c (.UnaryOp .Not a pos) (.not ma) :=
  (pe_not ha).imp fun σ H Q ⟨g, ρ, s, en, q, f⟩ => by
    refine (stepE en q f).mono fun v H1 ⟨d1, g1, s1, r1, a1⟩ => ?_
    have f1 := a1.fin
    split at f1
    · rename_i k
      cases r1
      exact ⟨k, rfl, f1 g1 H1 (.refl a1.to.st) _ (.bl _)⟩
    · exact f1.elim
theorem ex_ite {t : Expr} {mt : C} (ht : Tx X W x c t mt) (ha : Ex X W x c a ma) (hb : Ex X W x c b mb) : Ex X W x c (.IfExp t a b pos) (.ite mt ma mb) :=
  (pe_ifExp ht ha hb).imp fun σ H Q ⟨g, ρ, s, en, q, f⟩ => by
    refine (stepC en q f).mono fun k H1 ⟨g1, s1, a1⟩ => ?_
    have f1 := a1.fin
    cases k with
    | true => exact ⟨g1, ρ, s1, a1.env, a1.to.st, f1⟩
    | false => exact ⟨g1, ρ, s1, a1.env, a1.to.st, f1⟩
theorem ex_cmp (hK : W.K = X.K) (hu : X.A.units + 65 < cLine) {op : CmpOp} (hm : behindInMarks op b = false) (ha : Ex X W x c a ma) (hb : Ex X W x c b mb) : Ex X W x c (.Compare a [op] [b] pos) (.cmp op ma mb) :=
  (pe_cmpR (opr_cmp hK hu op) ha hb hm).imp fun σ H Q ⟨g, ρ, s, en, q, f⟩ => by
    refine (stepE en q f).mono fun v H1 ⟨d1, g1, s1, r1, a1⟩ => ?_
    refine (stepE a1.env a1.to.st a1.fin).mono fun w H2 ⟨d2, g2, s2, r2, a2⟩ => ?_
    obtain ⟨d3, h1, h2⟩ := Fin.lift a2.fin
    cases hk : cmpD op (look s2 d1) (look s2 d2) with
    | none => rw [hk] at h1; cases h1
    | some k =>
      rw [hk] at h1
      cases h1
      exact ⟨g2, s2, d1, d2, k, a2.to.st, r1.up a2.to.ext, r2, hk, h2 g2 H2 (.refl a2.to.st) _ (.bl k)⟩
theorem tx_cmp (hK : W.K = X.K) (hu : X.A.units + 65 < cLine) {op : CmpOp} (hm : behindInMarks op b = false) (ha : Ex X W x c a ma) (hb : Ex X W x c b mb) : Tx X W x c (.Compare a [op] [b] pos) (.cmp op ma mb) :=
  (pt_cmpR (opr_cmp hK hu op) ha hb hm).imp fun σ H Q ⟨g, ρ, s, en, q, f⟩ => by
    refine (stepE en q f).mono fun v H1 ⟨d1, g1, s1, r1, a1⟩ => ?_
    refine (stepE a1.env a1.to.st a1.fin).mono fun w H2 ⟨d2, g2, s2, r2, a2⟩ => ?_
    obtain ⟨k, h1, h2⟩ := Fin.lift a2.fin
    exact ⟨g2, s2, d1, d2, k, a2.to.st, r1.up a2.to.ext, r2, h1, k, rfl, h2 g2 H2 (.refl a2.to.st)⟩
theorem tx_cmp2 (hK : W.K = X.K) (hu : X.A.units + 65 < cLine) {o1 o2 : CmpOp} (hm : lastMarks [o1, o2] [b, d] = false) (ha : Ex X W x c a ma) (hb : Ex X W x c b mb) (hd : Ex X W x c d md) : Tx X W x c (.Compare a [o1, o2] [b, d] pos) (.cmp2 o1 o2 ma mb md) :=
  (pt_chain (opr_cmp hK hu o1) (opr_cmp hK hu o2) ha hb hd hm).imp fun σ H Q ⟨g, ρ, s, en, q, f⟩ => by
    refine (stepE en q f).mono fun v H1 ⟨d1, g1, s1, r1, a1⟩ => ?_
    refine (stepE a1.env a1.to.st a1.fin).mono fun w H2 ⟨d2, g2, s2, r2, a2⟩ => ?_
    have f2 := a2.fin
    cases hk : cmpD o1 (look s2 d1) (look s2 d2) with
    | none => rw [hk] at f2; exact f2.elim
    | some k =>
      rw [hk] at f2
      refine ⟨g2, s2, d1, d2, k, a2.to.st, r1.up a2.to.ext, r2, hk, k, rfl, ?_⟩
      cases k with
      | false => exact ⟨false, rfl, f2 g2 H2 (.refl a2.to.st)⟩
      | true =>
        refine (stepE a2.env a2.to.st f2).mono fun u H3 ⟨d3, g3, s3, r3, a3⟩ => ?_
        obtain ⟨k, h1, h2⟩ := Fin.lift a3.fin
        exact ⟨g3, s3, d2, d3, k, a3.to.st, r2.up a3.to.ext, r3, h1, k, rfl, h2 g3 H3 (.refl a3.to.st)⟩
end
end NM
end

section
set_option linter.all false
set_option maxHeartbeats 1000000
set_option autoImplicit false
/-! NM: expressions, further. -/
namespace NM
open PySem PyProof.Rows L2

def noStar : Expr → Bool
  | .Starred _ _ => false
  | _ => true
theorem star_cons {e : Expr} {es : List Expr} {env : PySem.Env} (h : noStar e = true) : starEach (e :: es) env = (false, eval e env) :: starEach es env := by
  cases e <;> first | rfl | cases h
theorem star_any {env : PySem.Env} {pos : Pos} : ∀ {es : List Expr}, es.all noStar = true → (backTo pos (starEach es env)).any (·.1) = false
  | [], _ => rfl
  | e :: es, h => by
    simp only [List.all_cons, Bool.and_eq_true] at h
    rw [star_cons h.1]
    have ih := star_any (env := env) (pos := pos) h.2
    show (false || (backTo pos (starEach es env)).any (·.1)) = false
    rw [ih]; rfl
def plainIx : Expr → Bool
  | .Slice _ _ _ _ => false
  | _ => true
theorem plain_ix {e : Expr} (h : plainIx e = true) : PlainIx e := by
  cases e <;> first | (intro _ _; rfl) | cases h
/-- what is tested by its value -/
def plainT : Expr → Bool
  | .UnaryOp .Not _ _ | .BoolOp _ _ _ | .IfExp _ _ _ _ | .Compare _ _ _ _ => false
  | _ => true
theorem plain_t {e : Expr} {env : PySem.Env} (h : plainT e = true) (whole : Sem Value) : isTrue e env whole = (do let v ← whole; standAt e.pos; holding [v] (truthy v)) := by
  cases e with
  | UnaryOp op a pos => cases op <;> first | rfl | cases h
  | _ => first | rfl | cases h
/-- whose attributes are plain -/
def plainA : Expr → Bool
  | .Call _ _ _ _ => false
  | _ => true
theorem plain_a {e : Expr} {f : Str} {env : PySem.Env} (h : plainA e = true) : attributeBase e f env (eval e env) = eval e env := by
  cases e <;> first | rfl | cases h

/-- an exception in the air: its class, its dict -/
def ExnR (W : Wr) (g : Gh) (H : Hp) (e : D) (cls : Value) (od : Option Addr) : Prop := ∃ c fs C d vs, e = .exc c fs ∧ W.exc c = some C ∧ cls = .ref C ∧ od = some d ∧ H d = some (.xd vs) ∧ RepF W g fs vs
def wish (W : Wr) (x : XW) : WX := fun cls od σ H => ∃ e s g, ExnR W g H e cls od ∧ SR W g H s ∧ x e s g σ H
def FinC (W : Wr) (g : Gh) (H : Hp) (s : S) (Q : VK) (E : XK) : R D → Prop
  | .ok d s' => ∀ g' v H', To W g H s g' H' s' → Rep W g' d v → Q v H'
  | .exn e s' => ∀ g' H' cls od, To W g H s g' H' s' → ExnR W g' H' e cls od → E cls od H'
  | .bad => False
/-- a def's promise -/
def spOf (W : Wr) (m : List D → S → R D) (n : Nat) : Sp := fun vs H Q E => ∃ g ds s, SR W g H s ∧ Reps W g ds vs ∧ ds.length = n ∧ FinC W g H s Q E (m ds s)

/-- the class object of a name -/
def cv (W : Wr) (k : Str) : Option (V × Value) := match W.ty k with
  | some T => some (.ty T, .type T)
  | none => match W.cls k with
    | some C => some (.ref C, .ref C)
    | none => (W.exc k).map fun C => (.ref C, .ref C)
/-- what a normal class says of itself for isinstance -/
structure InsC (K : PySem.W.Frag) (C : Addr) : Prop where
  cls : Cls K C
  ca : PySem.W.findIn K (.ref C) "__class__" = some (some (.builtin "object.__class__"))
  cg : PySem.W.specialIn K (.builtin "object.__class__") "__get__" = some (some (.builtin "getset_descriptor.__get__"))
  ct : PySem.W.takesIn K (.builtin "object.__class__") = some true
  co : PySem.W.mroIn K C (.type "object") = some true

/-- a class at C that makes an exception, called with the values us by place, ws by the names ks -/
def NewOk (X : Cx) (W : Wr) (par : Str → Option (Option Str)) (f : Str) (C : Addr) : Prop :=
  (∀ (pins : List (Addr × Obj)) (sh : Shared) (σ : L2.St) (H : Hp) (v : V) (u : Value) (Q : VK) (ks : List Str) (g : Gh) (s : S) (d d' : D), L2.Inv X pins σ H sh → RelV v u → SR W g H s → Rep W g d v → newD par f (some d) = some d' → Ret W g s d' H Q →
    (ks = [] → wpAny (model X.prog X.w) X.A (call (.ref C) [u] []) (EP X pins σ Q) X.xe sh) ∧ (∀ p, par f = some (some p) → ks = [p] → wpAny (model X.prog X.w) X.A (call (.ref C) [] [(p, u)]) (EP X pins σ Q) X.xe sh)) ∧
  (∀ (pins : List (Addr × Obj)) (sh : Shared) (σ : L2.St) (H : Hp) (Q : VK) (g : Gh) (s : S) (d' : D), L2.Inv X pins σ H sh → SR W g H s → newD par f none = some d' → Ret W g s d' H Q → wpAny (model X.prog X.w) X.A (call (.ref C) [] []) (EP X pins σ Q) X.xe sh)

/-- what stands around an expression -/
structure Good (X : Cx) (W : Wr) (x : XW) (c : Cxt) (N : List Str) (sc : Scope) : Prop where
  K : W.K = X.K
  N : X.N = N
  nd : X.N.Nodup
  sc : X.env.scope = sc
  calm : X.calm = true
  units : X.A.units + 65 < cLine
  con : ∀ n d, c.con n = some d → ∃ u v, X.mg n = some u ∧ RelV v u ∧ ∀ g, Rep W g d v
  free : ∀ n : Str, n ∈ (["len", "int", "abs", "list", "max", "all", "isinstance", "range", "enumerate", "zip"] : List Str) → X.mg n = none
  own : ∀ f, c.has f = true → ∃ k fA fd ps, X.mg f = some (.ref fA) ∧ PySem.W.keepIn X.K (.ref fA) = true ∧ Room k X.A ∧ Binds X.K fd ps [] ∧ FnOk X.prog X.w X.K X.mg X.base (L2.CX X.prog X.w) k fA fd ps (spOf W (c.call f) ps.length) ∧
    ∀ ds s, c.call f ds s ≠ .bad → ds.length = ps.length
  new : ∀ f, (c.par f).isSome = true → ∃ C, X.mg f = some (.ref C) ∧ PySem.W.keepIn X.K (.ref C) = true ∧ ∀ X' : Cx, X'.prog = X.prog → X'.w = X.w → X'.K = X.K → X'.A = X.A → NewOk X' W c.par f C
  takes : Takes X (wish W x)
  po : PassesOwn (model X.prog X.w) X.A X.env X.xe
  insF : ∀ k C f, W.cls k = some C → c.fld k f = true → NoAttr X.K C f ∧ Cls X.K C
  excF : ∀ k C f, W.exc k = some C → c.fld k f = true → NoAttr X.K C f ∧ ExcC X.K C
  bty : ∀ k T, (k, T) ∈ ([("NoneType", "NoneType"), ("bool", "bool"), ("int", "int"), ("str", "str"), ("tuple", "tuple"), ("list", "list")] : List (Str × String)) → W.ty k = some T
  insC : ∀ k C, W.cls k = some C → W.ty k = none ∧ InsC X.K C
  excC : ∀ k C, W.exc k = some C → W.ty k = none ∧ W.cls k = none ∧ ExcC X.K C
  isi : ∀ t k b p q, c.sub t k = some b → cv W t = some p → cv W k = some q → PySem.W.kitOne X.K p.2 q.2 = some b
  clsG : ∀ k p, cv W k = some p → (W.ty k = none → X.mg k = some p.2) ∧ (∀ T, W.ty k = some T → k ∈ (["int", "bool", "str", "list", "tuple", "ValueError", "LookupError", "IndexError"] : List Str) → X.mg k = none ∧ bootBuiltins k = some (.type T))
end NM
end

section
set_option linter.all false
set_option maxHeartbeats 2000000
set_option autoImplicit false
/-! NM: isinstance of exceptions that have a dict. -/
namespace NM
open PySem PySem.W PySem.Calls PyProof.Rows

theorem obj_data {K : Frag} {C : Addr} {n : Str} {a g : Value} (hc : (clsIn K C).isSome = true) (ha : findIn K (.ref C) n = some (some a)) (hg : specialIn K a "__get__" = some (some g)) (ht : takesIn K a = some true) (od : Option Obj) : findObj K C od n = some (.bind g a) := by
  obtain ⟨cd, hcd⟩ := Option.isSome_iff_exists.mp hc
  unfold findObj
  rw [hcd]
  simp [ha, hg, ht]
section
variable {prog : Program} {w : World} {A : Around} {E : Value → Shared → Prop} {K : Frag} {x D : Addr} {ox : Obj} {od : Option Obj}
theorem ask_class (C : L2.ExcC K D) {s : Shared} {Q : Option Value → Shared → Prop} (X : K.In s.heap) (I : InstAt s.heap x ox D od) (q : Q (some (.ref D)) { s with toks := s.toks + 1 }) : wpAny (model prog w) A (getAttr? (.ref x) "__class__") Q E s := by
  have hisc : (clsIn K D).isSome = true := by
    obtain ⟨cd, h, _⟩ := any_some C.hd
    rw [h]; rfl
  have fnd : findObj K D od "__class__" = some (.bind (.builtin "getset_descriptor.__get__") (.builtin "object.__class__")) := obj_data hisc C.ha C.hn C.ht od
  obtain ⟨hp, g, dr, t, os⟩ := s
  have tyx := I.type (M := model prog w)
  have lga := looks_findIn (M := model prog w) X C.hg
  have lgt := looks_findIn (M := model prog w) X C.hk
  have lfo := looks_find (M := model prog w) X I fnd
  have sub : Looks (model prog w) hp (isInstance (.ref x) (.type "BaseException")) true := tyx.andThen (looks_subIn X C.hs)
  have f1 : (onTheHeap (Value.ref D) && Value.builtin "BaseException.__getattribute__" == Value.builtin "object.__getattribute__") = false := by
    rw [show (Value.builtin "BaseException.__getattribute__" == Value.builtin "object.__getattribute__") = false by decide +kernel]
    rfl
  unfold getAttr? getAttrBy? getAttrBy
  refine wpAny_bind (wpAny_mkText (wpAny_bind (wpAny_attempt (wpAny_holding (wpAny_bind (tyx.at (wpAny_bind (lga.at ?_))))))))
  show wpAny _ _ (if (onTheHeap (Value.ref D) && Value.builtin "BaseException.__getattribute__" == Value.builtin "object.__getattribute__") = true then _ else _) _ _ _
  rw [f1]
  rw [if_neg Bool.false_ne_true]
  unfold getAttrByItsOwn hookBefore
  refine wpAny_bind ?_
  rw [if_pos (show onTheHeap (Value.ref D) = true from rfl)]
  refine lgt.at ?_
  refine wpAny_bind (wpAny_attempt (wpAny_holding ?_))
  unfold callGetattribute
  rw [show (false && onTheHeap (Value.builtin "BaseException.__getattribute__")) = false from rfl, if_neg Bool.false_ne_true]
  unfold boundAndCalled
  rw [PySem.F.excAttr_ValueError.ga.bind (.ref x)]
  refine wpAny_bind (wpAny_pure ?_)
  show wpAny _ _ (call (.builtin "BaseException.__getattribute__") [.ref x, .str "__class__" t]) _ _ _
  refine wpAny_call (codeAny_call_builtin PySem.F.excAttr_ValueError.ga.plain PySem.F.entry_bexc_ga ?_)
  refine @check_slot (model prog w) _ _ ⟨hp, g, dr, t + 1, os⟩ "BaseException.__getattribute__" "BaseException" "__getattribute__" (.ref x) [.str "__class__" t] [] _ (by decide +kernel) (by decide +kernel) sub (PySem.F.args_bexc_ga (.ref x) (.str "__class__" t)) ?_
  unfold Builtin.«object.__getattribute__»
  refine wpAny_bind (wpAny_of_eq (a := ((Value.ref x : Value), [Value.str "__class__" t])) (by simp only [slotArgs]; rfl) ?_)
  refine wpAny_bind (wpAny_pure (wpAny_bind (tyx.at (wpAny_bind (lfo.at ?_)))))
  show wpAny _ _ (holding [Value.builtin "object.__class__"] (call (.builtin "getset_descriptor.__get__") [.builtin "object.__class__", .ref x, .ref D]) >>= ret) _ _ _
  refine wpAny_bind (wpAny_holding (wpAny_call (class_get (s := ⟨hp, g, dr, t + 1, os⟩) X I C.hm ?_)))
  refine wpAny_pure ?_
  show wpAny _ _ (handedOut (.ref D)) _ _ _
  rw [handedOut_of (v := .ref D) rfl]
  first
    | exact wpAny_pure (wpAny_pure q)
    | exact wpAny_pure q
    | exact wpAny_pure (wpAny_bind (wpAny_pure (wpAny_pure q)))
theorem kit_exc (C : L2.ExcC K D) : KitX K (.ref x) (.ref D) (fun h => InstAt h x ox D od) where
  ty := fun _ _ _ I => I.type
  it := by
    intro M h X _
    obtain ⟨cd, hc, _⟩ := any_some C.hd
    unfold clsIn at hc
    split at hc
    · rename_i ho
      intro A' Q' E' s' k q
      unfold isType loadHead
      exact wpAny_bind (wpAny_loadPart (k _ _ (X _ _ ho)) (wpAny_pure q))
    · cases hc
  ne := (handS_kitx_exc (x := x) (ox := { cls := .ref D, data := .fields #[] }) C.hg C.hk C.hs C.hd C.ha C.hn C.ht C.hm).ne
  ca := fun X I k => ask_class C X I k
end
end NM
end

section
set_option linter.all false
set_option maxHeartbeats 2000000
set_option autoImplicit false
/-! NM: expressions: displays, places, calls. -/
namespace NM
open PySem PyProof.Rows L2

section
variable {X : Cx} {W : Wr} {x : XW} {c : Cxt} {N : List Str} {sc : Scope}
theorem ax_nil : Ax X W x c [] .nil := pa_nil.imp fun σ H Q ⟨g, ρ, s, en, q, f⟩ => f g H (.refl q) [] .nil
theorem ax_cons {e : Expr} {es : List Expr} {me : E} {ms : Es} (hs : noStar e = true) (ha : Ex X W x c e me) (hr : Ax X W x c es ms) : Ax X W x c (e :: es) (.cons me ms) :=
  (pa_cons ha hr (star_cons hs)).imp fun σ H Q ⟨g, ρ, s, en, q, f⟩ => by
    refine (stepE en q f).mono fun v H1 ⟨d1, g1, s1, r1, a1⟩ => ?_
    refine (stepA a1.env a1.to.st a1.fin).mono fun vs H2 ⟨ds, g2, s2, r2, a2⟩ => ?_
    exact a2.fin g2 H2 (.refl a2.to.st) _ (.cons (r1.up a2.to.ext) r2)
variable {a b : Expr} {es : List Expr} {ma mb : E} {ms : Es} {pos : Pos}
theorem ex_tup {k : Nat} (h : Ax X W x c es ms) : Ex X W x c (.Tuple es k pos) (.tup ms) :=
  (pe_tup h).imp fun σ H Q ⟨g, ρ, s, en, q, f⟩ => by
    refine (stepA en q f).mono fun vs H1 ⟨ds, g1, s1, r1, a1⟩ => ?_
    have f1 := a1.fin
    split at f1
    · rename_i hl
      refine ⟨by rw [r1.len, line_eq]; exact hl, fun p hp => ?_⟩
      exact f1 (g1.new p (.tup vs)) _ (to_new a1.to.st hp) _ (.tup (SqT.of new_at) (r1.up (ext_new (a1.to.st.gnone hp))))
    · exact f1.elim
theorem ex_lst (h : Ax X W x c es ms) : Ex X W x c (.List es pos) (.lst ms) :=
  (pe_lst h).imp fun σ H Q ⟨g, ρ, s, en, q, f⟩ => by
    refine (stepA en q f).mono fun vs H1 ⟨ds, g1, s1, r1, a1⟩ => ?_
    have f1 := a1.fin
    split at f1
    · rename_i hl
      refine ⟨by rw [r1.len, line_eq]; exact hl, fun p hp => ?_⟩
      exact f1 (g1.new p (.lst vs)) _ (to_new a1.to.st hp) _ (.lst new_at (r1.up (ext_new (a1.to.st.gnone hp))))
    · exact f1.elim
/-- a new list, kept as one that changes -/
theorem SR.push {g : Gh} {H : Hp} {s : S} (r : SR W g H s) {p : Addr} (hp : H p = none) {ds : List D} {vs : List V} (q : Reps W g ds vs) :
    To W g H s ⟨g.mu ++ [p], g.G⟩ (upd H p (.lst vs)) (s ++ [.lst ds]) := by
  have e : Ext g ⟨g.mu ++ [p], g.G⟩ := ⟨fun n a h => by
    have hn : n < g.mu.length := (List.getElem?_eq_some_iff.mp h).1
    show (g.mu ++ [p])[n]? = some a
    rw [List.getElem?_append_left hn]; exact h, fun _ _ h => h⟩
  refine ⟨e, ⟨fun a o h => ?_, by simp [r.len], fun n m h => ?_, fun n k m m' a h1 h2 l1 l2 h3 h4 => ?_⟩, fun a o h nl => ?_, fun _ _ _ _ f => f⟩
  · rw [upd_ne (ne_of_none (r.sub a o h) hp)]; exact r.sub a o h
  · by_cases hn : n < s.length
    · rw [List.getElem?_append_left hn] at h
      obtain ⟨a, h1, h2⟩ := r.mo n m h
      refine ⟨a, e.mu n a h1, ?_⟩
      cases m with
      | lst es =>
        obtain ⟨xs, h3, h4, h5⟩ := h2
        exact ⟨xs, by rw [upd_ne (ne_of_none h3 hp)]; exact h3, h4.up e, h5⟩
      | frz d => exact h2.up e
      | gone => trivial
    · have hl : n < (s ++ [MO.lst ds]).length := (List.getElem?_eq_some_iff.mp h).1
      have hn2 : n = s.length := by simp at hl; omega
      subst hn2
      simp at h
      subst h
      refine ⟨p, by show (g.mu ++ [p])[s.length]? = some p; rw [← r.len]; simp, vs, upd_same, q.up e, r.gnone hp⟩
  · have key : ∀ {n : Nat} {m : MO} {a : Addr}, (s ++ [MO.lst ds])[n]? = some m → Live m → (g.mu ++ [p])[n]? = some a → (n = s.length ∧ a = p) ∨ (n < s.length ∧ s[n]? = some m ∧ g.mu[n]? = some a ∧ a ≠ p) := by
      intro n m a h l h'
      by_cases hn : n < s.length
      · rw [List.getElem?_append_left hn] at h
        rw [List.getElem?_append_left (by rw [r.len]; exact hn)] at h'
        refine .inr ⟨hn, h, h', ?_⟩
        obtain ⟨a', h1, h2⟩ := r.mo n m h
        rw [h'] at h1
        cases h1
        cases m with
        | lst es =>
          obtain ⟨xs, h3, _, _⟩ := h2
          exact ne_of_none h3 hp
        | frz d => exact l.elim
        | gone => exact l.elim
      · have hl : n < (s ++ [MO.lst ds]).length := (List.getElem?_eq_some_iff.mp h).1
        have hn2 : n = s.length := by simp at hl; omega
        subst hn2
        rw [← r.len] at h'
        simp at h'
        exact .inl ⟨rfl, h'.symm⟩
    rcases key h1 l1 h3 with ⟨u1, v1⟩ | ⟨u1, w1, z1, v1⟩ <;> rcases key h2 l2 h4 with ⟨u2, v2⟩ | ⟨u2, w2, z2, v2⟩
    · rw [u1, u2]
    · exact absurd v1 v2
    · exact absurd v2 v1
    · exact r.ne n k m m' a w1 w2 l1 l2 z1 z2
  · refine ⟨by rw [upd_ne (ne_of_none h hp)]; exact h, fun ⟨n, m, h1, h2, h3⟩ => ?_⟩
    by_cases hn : n < s.length
    · rw [List.getElem?_append_left hn] at h1
      rw [List.getElem?_append_left (by rw [r.len]; exact hn)] at h3
      exact nl ⟨n, m, h1, h2, h3⟩
    · have hl : n < (s ++ [MO.lst ds]).length := (List.getElem?_eq_some_iff.mp h1).1
      have hn2 : n = s.length := by simp at hl; omega
      subst hn2
      rw [← r.len] at h3
      simp at h3
      exact ne_of_none h hp h3.symm
theorem ex_mlst (h : Ax X W x c es ms) : Ex X W x c (.List es pos) (.mlst ms) :=
  (pe_lst h).imp fun σ H Q ⟨g, ρ, s, en, q, f⟩ => by
    refine (stepA en q f).mono fun vs H1 ⟨ds, g1, s1, r1, a1⟩ => ?_
    have f1 := a1.fin
    split at f1
    · rename_i hl
      refine ⟨by rw [r1.len, line_eq]; exact hl, fun p hp => ?_⟩
      have t2 := a1.to.st.push hp r1
      have hm : (⟨g1.mu ++ [p], g1.G⟩ : Gh).mu[s1.length]? = some p := by
        show (g1.mu ++ [p])[s1.length]? = some p
        rw [← a1.to.st.len]; simp
      exact f1 _ _ t2 _ (.ref hm)
    · exact f1.elim
theorem ex_idx (G : Good X W x c N sc) (hp : plainIx b = true) (ha : Ex X W x c a ma) (hb : Ex X W x c b mb) : Ex X W x c (.Subscript a b pos) (.idx ma mb) :=
  (pe_ix (ixr_idx G.K) ha hb (plain_ix hp)).imp fun σ H Q ⟨g, ρ, s, en, q, f⟩ => by
    refine (stepE en q f).mono fun v H1 ⟨d1, g1, s1, r1, a1⟩ => ?_
    refine (stepE a1.env a1.to.st a1.fin).mono fun w H2 ⟨d2, g2, s2, r2, a2⟩ => ?_
    obtain ⟨d3, h1, h2⟩ := Fin.lift a2.fin
    exact ⟨g2, s2, d1, d2, d3, a2.to.st, r1.up a2.to.ext, r2, h1, fun g' v' H' t' rv => h2 g' H' t' v' rv⟩
def RdO (W : Wr) (x : XW) (c : Cxt) (m : E) : TO := fun σ H Q => ∃ g ρ s, EnvR W g ρ σ ∧ SR W g H s ∧ Fin W x σ g H s (fun o _ _ H' => Q o H') ((ev c m ρ s).bind fun l s2 => lift (partD (isNo m) l) s2)
theorem po_no : PO X none (RdO W x c .no) := ⟨fun pins s σ H Q I ⟨g, ρ, st, en, q, f⟩ => po_none.run pins s σ H Q I (f g H (.refl q))⟩
theorem po_e (hn : isNo ma = false) (ha : Ex X W x c a ma) : PO X (some a) (RdO W x c ma) := ⟨fun pins s σ H Q I ⟨g, ρ, st, en, q, f⟩ => by
  refine (po_some ha).run pins s σ H Q I ((stepE en q f).mono fun v H1 ⟨d1, g1, s1, r1, a1⟩ => ?_)
  obtain ⟨o, h1, h2⟩ := Fin.lift a1.fin
  rw [hn] at h1
  simp only [partD, Bool.false_eq_true, if_false] at h1
  split at h1
  · cases r1
    cases h1
    exact ⟨_, rfl, h2 g1 H1 (.refl a1.to.st)⟩
  · cases h1⟩
theorem ex_slc (G : Good X W x c N sc) {lo hi : Option Expr} {ml mh : E} {p2 : Pos} (ha : Ex X W x c a ma) (hl : PO X lo (RdO W x c ml)) (hh : PO X hi (RdO W x c mh)) : Ex X W x c (.Subscript a (.Slice lo hi none p2) pos) (.slc ma ml mh) :=
  (pe_slice (slr_slc G.K) ha hl hh).imp fun σ H Q ⟨g, ρ, s, en, q, f⟩ => by
    refine (stepE en q f).mono fun v H1 ⟨d1, g1, s1, r1, a1⟩ => ?_
    refine ⟨g1, ρ, s1, a1.env, a1.to.st, a1.fin.bind.mono fun l s2 g2 H2 t2 f2 => ?_⟩
    refine ⟨g2, ρ, s2, a1.env.up t2.ext, t2.st, f2.bind.mono fun h s3 g3 H3 t3 f3 => ?_⟩
    obtain ⟨d, h1, h2⟩ := Fin.lift f3
    exact ⟨g3, s3, d1, d, t3.st, (r1.up t2.ext).up t3.ext, h1, fun g' v' H' t' rv => h2 g' H' t' v' rv⟩
/-- own defs called by their names -/
theorem Good.gl (G : Good X W x c N sc) {f : Str} (h : sc.names.lookup f = some .globalImplicit) : Gl X f := by
  unfold Gl
  show X.env.scope.names.lookup f = _
  rw [G.sc]
  exact h
theorem ex_call (G : Good X W x c N sc) {f : Str} {p : Pos} {e : Expr} (hg : sc.names.lookup f = some .globalImplicit) (hd : (f == ("__debug__" : Str)) = false) (hs : (e :: es).all noStar = true) (h : Ax X W x c (e :: es) ms) : Ex X W x c (.Call (.Name f p) (e :: es) [] pos) (.call f ms) := by
  have hs' := hs
  simp only [List.all_cons, Bool.and_eq_true] at hs'
  cases hh : c.has f with
  | false =>
    exact ⟨fun pins s σ H Q I ⟨g, ρ, st, en, q, fi⟩ => by
      have fi' : Fin W x σ g H st (fun d _ g' H' => ∀ v, Rep W g' d v → Q v H') (if c.has f = true then (evs c ms ρ st).bind fun ds s1 => c.call f ds s1 else .bad) := fi
      rw [hh] at fi'
      exact fi'.elim⟩
  | true =>
    obtain ⟨k, fA, fd, ps, h1, h2, h3, h4, F, h5⟩ := G.own f hh
    refine (pe_callS F h3 (G.gl hg) h1 h2 h4 (fun σ => passAt G.takes σ) h hd (star_cons hs'.1) (star_any hs'.2)).imp fun σ H Q ⟨g, ρ, s, en, q, f0⟩ => ?_
    have f1 : Fin W x σ g H s (fun d _ g' H' => ∀ v, Rep W g' d v → Q v H') (if c.has f = true then (evs c ms ρ s).bind fun ds s1 => c.call f ds s1 else .bad) := f0
    rw [hh, if_pos rfl] at f1
    refine (stepA en q f1).mono fun vs H1 ⟨ds, g1, s1, r1, a1⟩ => ?_
    have f2 := a1.fin
    refine ⟨g1, ds, s1, a1.to.st, r1, h5 _ _ fun z => by rw [z] at f2; exact f2.elim, ?_⟩
    revert f2
    cases c.call f ds s1 with
    | ok d s2 => exact fun f2 g' v H' t' rv => f2 g' H' t' v rv
    | exn e s2 => exact fun f2 g' H' cls od t' er => ⟨e, s2, g', er, t'.st, f2 g' H' t'⟩
    | bad => exact fun f2 => f2.elim
theorem ex_call0 (G : Good X W x c N sc) {f : Str} {p : Pos} (hg : sc.names.lookup f = some .globalImplicit) (hd : (f == ("__debug__" : Str)) = false) : Ex X W x c (.Call (.Name f p) [] [] pos) (.call f .nil) := by
  refine ⟨fun pins sh σ H Q I ⟨g, ρ, s, en, q, f0⟩ => ?_⟩
  have f1 : Fin W x σ g H s (fun d _ g' H' => ∀ v, Rep W g' d v → Q v H') (if c.has f = true then c.call f [] s else .bad) := f0
  cases hh : c.has f with
  | false => rw [hh] at f1; exact f1.elim
  | true =>
    rw [hh, if_pos rfl] at f1
    obtain ⟨k, fA, fd, ps, h1, h2, h3, h4, F, h5⟩ := G.own f hh
    refine wpAny_Call_Name_kw (ld_glob I (G.gl hg) h1 ?_ hd)
    refine PySem.W.callWith_K0 I.kIn h2 (run_fnS (us := []) (vs := []) (E := WE (wish W x)) F h3 h4 (passAt G.takes σ) I .nil ?_)
    refine ⟨g, [], s, q, .nil, h5 _ _ fun z => by rw [z] at f1; exact f1.elim, ?_⟩
    revert f1
    cases c.call f [] s with
    | ok d s2 => exact fun f2 g' v H' t' rv => f2 g' H' t' v rv
    | exn e s2 => exact fun f2 g' H' cls od t' er => ⟨e, s2, g', er, t'.st, f2 g' H' t'⟩
    | bad => exact fun f2 => f2.elim
/-- a new exception -/
theorem new_open {f : Str} {me : E} {g : Gh} {ρ : Env} {s : S} {σ : L2.St} {H : Hp} {Q : VK} (h : Fin W x σ g H s (fun d _ g' H' => ∀ v, Rep W g' d v → Q v H') (ev c (.new f me) ρ s)) :
    (c.par f).isSome = true ∧ Fin W x σ g H s (fun d _ g' H' => ∀ v, Rep W g' d v → Q v H') ((ev c me ρ s).bind fun d s1 => lift (newD c.par f (some d)) s1) := by
  have f1 : Fin W x σ g H s (fun d _ g' H' => ∀ v, Rep W g' d v → Q v H') (if (c.par f).isSome = true then (ev c me ρ s).bind fun d s1 => lift (newD c.par f (some d)) s1 else .bad) := h
  split at f1
  · rename_i hp
    exact ⟨hp, f1⟩
  · exact f1.elim
theorem ex_new (G : Good X W x c N sc) {f : Str} {p : Pos} {e : Expr} {me : E} (hg : sc.names.lookup f = some .globalImplicit) (hd : (f == ("__debug__" : Str)) = false) (hs : noStar e = true) (h : Ex X W x c e me) : Ex X W x c (.Call (.Name f p) [e] [] pos) (.new f me) := by
  refine ⟨fun pins sh σ H Q I ⟨g, ρ, s, en, q, f0⟩ => ?_⟩
  obtain ⟨hp, f1⟩ := new_open f0
  obtain ⟨C, h1, h2, hN⟩ := G.new f hp
  obtain ⟨h3, _⟩ := hN X rfl rfl rfl rfl
  have rd : tCons (RdE W x (ev c me)) tNil σ H (fun vs H1 => ∃ v d g1 s1, vs = [v] ∧ Rep W g1 d v ∧ Aft W x σ (fun d _ g' H' => ∀ v, Rep W g' d v → Q v H') g H s ρ H1 (lift (newD c.par f (some d)) s1) g1 s1) :=
    (stepE en q f1).mono fun v H1 ⟨d, g1, s1, r, a⟩ => ⟨v, d, g1, s1, rfl, r, a⟩
  refine wpAny_Call_Name_kw (ld_glob I (G.gl hg) h1 ?_ hd)
  refine PySem.W.callWith_K (h₀ := X.base) I.ok.mod.kin h2 (thn ((pa_cons h pa_nil (star_cons hs)).run pos pins sh σ H _ I rd) fun us sh1 ⟨vs, H1, I1, rv, v, d, g1, s1, ev, r1, a1⟩ => ⟨I1.kIn, ?_⟩) (star_cons hs) rfl
  subst ev
  obtain ⟨u, rfl, ru⟩ := vals1 rv
  obtain ⟨d', h4, h5⟩ := Fin.lift a1.fin
  exact (h3 pins sh1 σ H1 v u Q [] g1 s1 d d' I1 ru a1.to.st r1 h4 fun g' v' H' t' rv' => h5 g' H' t' v' rv').1 rfl
theorem ex_newK (G : Good X W x c N sc) {f pn : Str} {p kp : Pos} {e : Expr} {me : E} (hg : sc.names.lookup f = some .globalImplicit) (hd : (f == ("__debug__" : Str)) = false) (hpn : c.par f = some (some pn)) (h : Ex X W x c e me) : Ex X W x c (.Call (.Name f p) [] [⟨some pn, e, kp⟩] pos) (.new f me) := by
  refine ⟨fun pins sh σ H Q I ⟨g, ρ, s, en, q, f0⟩ => ?_⟩
  obtain ⟨hp, f1⟩ := new_open f0
  obtain ⟨C, h1, h2, hN⟩ := G.new f hp
  obtain ⟨h3, _⟩ := hN X rfl rfl rfl rfl
  have rd : tCons (RdE W x (ev c me)) tNil σ H (fun vs H1 => ∃ v d g1 s1, vs = [v] ∧ Rep W g1 d v ∧ Aft W x σ (fun d _ g' H' => ∀ v, Rep W g' d v → Q v H') g H s ρ H1 (lift (newD c.par f (some d)) s1) g1 s1) :=
    (stepE en q f1).mono fun v H1 ⟨d, g1, s1, r, a⟩ => ⟨v, d, g1, s1, rfl, r, a⟩
  refine wpAny_Call_Name_kw (ld_glob I (G.gl hg) h1 ?_ hd)
  refine PySem.W.callWith_KW0 (h₀ := X.base) I.ok.mod.kin h2 rfl (thn ((pk_cons h pk_nil).run pos pins sh σ H _ I rd) fun us sh1 ⟨vs, H1, I1, rv, v, d, g1, s1, ev, r1, a1⟩ => ⟨I1.kIn, ?_⟩) rfl
  subst ev
  obtain ⟨u, rfl, ru⟩ := vals1 rv
  obtain ⟨d', h4, h5⟩ := Fin.lift a1.fin
  exact (h3 pins sh1 σ H1 v u Q [pn] g1 s1 d d' I1 ru a1.to.st r1 h4 fun g' v' H' t' rv' => h5 g' H' t' v' rv').2 pn hpn rfl
theorem ex_new0 (G : Good X W x c N sc) {f : Str} {p : Pos} (hg : sc.names.lookup f = some .globalImplicit) (hd : (f == ("__debug__" : Str)) = false) : Ex X W x c (.Call (.Name f p) [] [] pos) (.new0 f) := by
  refine ⟨fun pins sh σ H Q I ⟨g, ρ, s, en, q, f0⟩ => ?_⟩
  have f1 : Fin W x σ g H s (fun d _ g' H' => ∀ v, Rep W g' d v → Q v H') (if (c.par f).isSome = true then lift (newD c.par f none) s else .bad) := f0
  split at f1
  · rename_i hp
    obtain ⟨C, h1, h2, hN⟩ := G.new f hp
    obtain ⟨_, h3⟩ := hN X rfl rfl rfl rfl
    obtain ⟨d', h4, h5⟩ := Fin.lift f1
    refine wpAny_Call_Name_kw (ld_glob I (G.gl hg) h1 ?_ hd)
    exact PySem.W.callWith_K0 I.kIn h2 (h3 pins sh σ H Q g s d' I q h4 fun g' v' H' t' rv' => h5 g' H' t' v' rv')
  · exact f1.elim
/-- a call of a built-in with the values as they stand -/
def rBi (W : Wr) (b : Str) : List V → Hp → VK → Prop := fun vs H Q => ∃ g s ds d, SR W g H s ∧ Reps W g ds vs ∧ biD b (ds.map (look s)) = some d ∧ Ret W g s d H Q
theorem nows1 {g : Gh} {H : Hp} {d : D} {vs : List V} (h : Nows W g H [d] vs) : ∃ v, vs = [v] ∧ Now W g H d v := by
  cases h with
  | cons a r => cases r; exact ⟨_, rfl, a⟩
theorem nows2 {g : Gh} {H : Hp} {d e : D} {vs : List V} (h : Nows W g H [d, e] vs) : ∃ v w, vs = [v, w] ∧ Now W g H d v ∧ Now W g H e w := by
  cases h with
  | cons a r =>
    obtain ⟨w, rfl, b⟩ := nows1 r
    exact ⟨_, _, rfl, a, b⟩
theorem bi_len (hK : W.K = X.K) : CallR X (.builtin "len") (rBi W "len") := by
  intro pins sh σ H vs us Q I rv ⟨g, s, ds, d, r, rs, e, k⟩
  have ns := nows_of r rs
  revert e ns
  generalize ds.map (look s) = es
  intro e ns
  unfold biD at e
  rw [if_pos rfl] at e
  split at e
  · rename_i a
    obtain ⟨v, rfl, na⟩ := nows1 ns
    cases h : lenD a with
    | none => rw [h] at e; cases e
    | some n =>
      rw [h] at e
      cases e
      exact call_len pins sh σ H _ us Q I rv ⟨v, n, rfl, len_v hK r na h, k.same r (.int _)⟩
  · cases e
theorem bi_int (hK : W.K = X.K) : CallR X (.type "int") (rBi W "int") := by
  intro pins sh σ H vs us Q I rv ⟨g, s, ds, d, r, rs, e, k⟩
  have ns := nows_of r rs
  revert e ns
  generalize ds.map (look s) = es
  intro e ns
  unfold biD at e
  rw [if_neg (by decide), if_pos rfl] at e
  split at e
  · obtain ⟨v, rfl, na⟩ := nows1 ns
    cases na.int
    cases e
    exact call_int1 pins sh σ H _ us Q I rv (.inl ⟨_, rfl, k.same r (.int _)⟩)
  · obtain ⟨v, rfl, na⟩ := nows1 ns
    cases na.bl
    cases e
    exact call_int1 pins sh σ H _ us Q I rv (.inr ⟨_, rfl, k.same r (.int _)⟩)
  · cases e
theorem bi_abs (hK : W.K = X.K) : CallR X (.builtin "abs") (rBi W "abs") := by
  intro pins sh σ H vs us Q I rv ⟨g, s, ds, d, r, rs, e, k⟩
  have ns := nows_of r rs
  revert e ns
  generalize ds.map (look s) = es
  intro e ns
  unfold biD at e
  rw [if_neg (by decide), if_neg (by decide), if_pos rfl] at e
  split at e
  · obtain ⟨v, rfl, na⟩ := nows1 ns
    cases na.int
    cases e
    exact call_abs pins sh σ H _ us Q I rv ⟨_, rfl, k.same r (.int _)⟩
  · cases e
theorem bi_list (hK : W.K = X.K) : CallR X (.type "list") (rBi W "list") := by
  intro pins sh σ H vs us Q I rv ⟨g, s, ds, d, r, rs, e, k⟩
  have ns := nows_of r rs
  revert e ns
  generalize ds.map (look s) = es
  intro e ns
  unfold biD at e
  rw [if_neg (by decide), if_neg (by decide), if_neg (by decide), if_pos rfl] at e
  split at e
  · obtain ⟨v, rfl, na⟩ := nows1 ns
    cases e
    obtain ⟨p, xs, rfl, h1, h2⟩ := na.asLst r.sub
    exact call_list_of pins sh σ H _ us Q I rv ⟨p, xs, rfl, .inl (SqL.of h1), fun l hl => k.lst r h2 l hl⟩
  · obtain ⟨v, rfl, na⟩ := nows1 ns
    cases e
    obtain ⟨p, xs, rfl, h1, _, h2⟩ := na.asTup r.sub
    exact call_list_of pins sh σ H _ us Q I rv ⟨p, xs, rfl, .inr (hK ▸ h1), fun l hl => k.lst r h2 l hl⟩
  · cases e
theorem bi_max (hK : W.K = X.K) (hc : X.calm = true) : CallR X (.builtin "max") (rBi W "max") := by
  intro pins sh σ H vs us Q I rv ⟨g, s, ds, d, r, rs, e, k⟩
  have ns := nows_of r rs
  revert e ns
  generalize ds.map (look s) = es
  intro e ns
  unfold biD at e
  rw [if_neg (by decide), if_neg (by decide), if_neg (by decide), if_neg (by decide), if_pos rfl] at e
  split at e
  · obtain ⟨v, w, rfl, na, nb⟩ := nows2 ns
    cases na.int
    cases nb.int
    cases e
    exact call_max2 hc pins sh σ H _ us Q I rv ⟨_, _, rfl, k.same r (.int _)⟩
  · cases e
theorem bi_all (hK : W.K = X.K) (hc : X.calm = true) : CallR X (.builtin "all") (rBi W "all") := by
  intro pins sh σ H vs us Q I rv ⟨g, s, ds, d, r, rs, e, k⟩
  have ns := nows_of r rs
  revert e ns
  generalize ds.map (look s) = es
  intro e ns
  unfold biD at e
  rw [if_neg (by decide), if_neg (by decide), if_neg (by decide), if_neg (by decide), if_neg (by decide), if_pos rfl] at e
  split at e
  · rename_i xs
    obtain ⟨v, rfl, na⟩ := nows1 ns
    cases h : boolsD xs with
    | none => rw [h] at e; cases e
    | some bs =>
      rw [h] at e
      cases e
      obtain ⟨p, ys, rfl, h1, h2⟩ := na.asLst r.sub
      have := bools_rep h2 h
      subst this
      exact cr_all hc pins sh σ H _ us Q I rv ⟨p, bs, rfl, SqL.of h1, k.same r (.bl _)⟩
  · cases e
theorem bi_go {b : Str} {t : TE} {e : Expr} (h : PE X e (tCB (rBi W b) (RdA W x (evs c ms)))) : Ex X W x c e (.bi b ms) := h.imp fun σ H Q ⟨g, ρ, s, en, q, f⟩ => by
  refine (stepA en q f).mono fun vs H1 ⟨ds, g1, s1, r1, a1⟩ => ?_
  obtain ⟨d, h1, h2⟩ := Fin.lift a1.fin
  exact ⟨g1, s1, ds, d, a1.to.st, r1, h1, fun g' v' H' t' rv => h2 g' H' t' v' rv⟩
end
end NM
end

section
set_option linter.all false
set_option maxHeartbeats 2000000
set_option autoImplicit false
/-! NM: built-ins by name, isinstance, fields, tests. -/
namespace NM
open PySem PyProof.Rows L2

section
variable {X : Cx} {W : Wr} {x : XW} {c : Cxt} {N : List Str} {sc : Scope}
variable {a b e : Expr} {es : List Expr} {ma mb : E} {ms : Es} {pos p : Pos}

theorem boot_max : bootBuiltins "max" = some (.builtin "max") := by decide +kernel
theorem boot_all : bootBuiltins "all" = some (.builtin "all") := by decide +kernel
theorem ex_bi (G : Good X W x c N sc) {f : Str} (hf : f ∈ (["len", "int", "abs", "list", "max", "all"] : List Str)) (hg : sc.names.lookup f = some .globalImplicit) (hs : (e :: es).all noStar = true) (h : Ax X W x c (e :: es) ms) : Ex X W x c (.Call (.Name f p) (e :: es) [] pos) (.bi f ms) := by
  have hs' := hs
  simp only [List.all_cons, Bool.and_eq_true] at hs'
  have hm : X.mg f = none := G.free f (by
    simp only [List.mem_cons, List.not_mem_nil, or_false] at hf ⊢
    rcases hf with h | h | h | h | h | h <;> simp [h])
  simp only [List.mem_cons, List.not_mem_nil, or_false] at hf
  rcases hf with h1 | h1 | h1 | h1 | h1 | h1 <;> subst h1
  · exact bi_go (t := fun _ _ _ => True) (pe_callB (bi_len G.K) (G.gl hg) hm boot_len h (by decide) (by decide) (star_cons hs'.1) (star_any hs'.2))
  · exact bi_go (t := fun _ _ _ => True) (pe_callTy (bi_int G.K) (G.gl hg) hm boot_int h (by decide) (by decide) (star_cons hs'.1) (star_any hs'.2))
  · exact bi_go (t := fun _ _ _ => True) (pe_callB (bi_abs G.K) (G.gl hg) hm boot_abs h (by decide) (by decide) (star_cons hs'.1) (star_any hs'.2))
  · exact bi_go (t := fun _ _ _ => True) (pe_callTy (bi_list G.K) (G.gl hg) hm boot_list h (by decide) (by decide) (star_cons hs'.1) (star_any hs'.2))
  · exact bi_go (t := fun _ _ _ => True) (pe_callB (bi_max G.K G.calm) (G.gl hg) hm boot_max h (by decide) (by decide) (star_cons hs'.1) (star_any hs'.2))
  · exact bi_go (t := fun _ _ _ => True) (pe_callB (bi_all G.K G.calm) (G.gl hg) hm boot_all h (by decide) (by decide) (star_cons hs'.1) (star_any hs'.2))

/-! ### isinstance -/
theorem ty_of (G : Good X W x c N sc) {g : Gh} {H : Hp} {s : S} (r : SR W g H s) {d : D} {v : V} (na : Now W g H d v) {t : Str} (ht : tyD d = some t) {q : V × Value} (hq : cv W t = some q) (hn : ∀ k fs, d ≠ .exc k fs) : TyX X.K H v q.2 := by
  have bt : ∀ {k : Str} {T : String}, (k, T) ∈ ([("NoneType", "NoneType"), ("bool", "bool"), ("int", "int"), ("str", "str"), ("tuple", "tuple"), ("list", "list")] : List (Str × String)) → cv W k = some q → q.2 = .type T := fun {k T} hk hc => by
    have h1 := G.bty k T hk
    unfold cv at hc
    rw [h1] at hc
    cases hc
    rfl
  cases d with
  | non =>
    cases na.non
    cases ht
    rw [bt (T := "NoneType") (by decide +kernel) hq]
    exact .base .non
  | bl b =>
    cases na.bl
    cases ht
    rw [bt (T := "bool") (by decide +kernel) hq]
    exact .base (.bl _)
  | int i =>
    cases na.int
    cases ht
    rw [bt (T := "int") (by decide +kernel) hq]
    exact .base (.int _)
  | str z =>
    cases na.str
    cases ht
    rw [bt (T := "str") (by decide +kernel) hq]
    exact .base (.str _)
  | tup ds =>
    cases ht
    obtain ⟨a, xs, rfl, h1, _, _⟩ := na.asTup r.sub
    rw [bt (T := "tuple") (by decide +kernel) hq]
    rw [G.K] at h1
    rcases h1 with (h1 | ⟨o, h1⟩) | ⟨o, its, n, h1, h2, _⟩
    · exact .base (.tup h1)
    · exact .fTuple h1
    · exact .kTuple h1 h2
  | lst ds =>
    cases ht
    obtain ⟨a, xs, rfl, h1, _⟩ := na.asLst r.sub
    rw [bt (T := "list") (by decide +kernel) hq]
    exact .base (.lst h1)
  | ins k fs =>
    cases ht
    cases na with
    | rep h =>
      cases h with
      | ins hc hi hf =>
        rename_i a C dx vs
        obtain ⟨z1, z2⟩ := G.insC _ _ hc
        have e : cv W t = some (.ref C, .ref C) := by unfold cv; rw [z1, hc]
        rw [e] at hq
        cases hq
        exact .base (.ins (r.sub _ _ hi) z2.cls z2.ca z2.cg z2.ct z2.co)
  | exc k fs => exact absurd rfl (hn k fs)
  | ref n => cases ht
  | scr ds => cases ht
theorem kit_rep (G : Good X W x c N sc) {pins : List (Addr × Obj)} {σ : L2.St} {H : Hp} {sh : Shared} (I : L2.Inv X pins σ H sh) {g : Gh} {s : S} (r : SR W g H s) {d : D} {v : V} {u : Value} (na : Now W g H d v) (rv : RelV v u) {t : Str} (ht : tyD d = some t) {q : V × Value} (hq : cv W t = some q) :
    ∃ P : Heap → Prop, PySem.W.KitX X.K u q.2 P ∧ P sh.heap ∧ u ≠ .builtin "__main__.__loader__#opaque" := by
  by_cases hn : ∀ k fs, d ≠ .exc k fs
  · exact L2.kit_of I rv (ty_of G r na ht hq hn)
  · obtain ⟨k, fs, rfl⟩ : ∃ k fs, d = .exc k fs := by
      cases d with
      | exc k fs => exact ⟨k, fs, rfl⟩
      | _ => exact absurd (fun _ _ z => nomatch z) hn
    cases ht
    cases na with
    | rep h =>
      cases h with
      | exc hc hi hd hf =>
        rename_i a C dx vs
        obtain ⟨z1, z2, z3⟩ := G.excC _ _ hc
        have e : cv W t = some (.ref C, .ref C) := by unfold cv; rw [z1, z2, hc]; rfl
        rw [e] at hq
        cases hq
        cases rv
        obtain ⟨t1, ho⟩ := exo_at I.hok (r.sub _ _ hi)
        obtain ⟨mA, hns, _⟩ := exd_at I.hok (r.sub _ _ hd)
        obtain ⟨od, hod, _⟩ := lookIn_ns hns
        exact ⟨_, kit_exc (od := some od) z3, ⟨ho, rfl, rfl, hod⟩, fun z => nomatch z⟩
def rIs (W : Wr) (c : Cxt) (ks : List Str) (one : Bool) : List V → Hp → VK → Prop := fun vs H Q => ∃ g s d t k v w qs, SR W g H s ∧ Now W g H d v ∧ tyD d = some t ∧ anyC (c.sub t) ks = some k ∧ vs = [v, w] ∧ ks.mapM (cv W) = some qs ∧
  (if one = true then qs.map (·.1) = [w] else ∃ tp, w = .ref tp ∧ H tp = some (.tup (qs.map (·.1)))) ∧ (∃ q, cv W t = some q) ∧ Q (.bl k) H
theorem any_kit (G : Good X W x c N sc) {t : Str} {q : V × Value} (hq : cv W t = some q) : ∀ {ks : List Str} {qs : List (V × Value)} {b : Bool}, ks.mapM (cv W) = some qs → anyC (c.sub t) ks = some b → PySem.W.kitAny X.K q.2 (qs.map (·.2)) = some b
  | [], qs, b, h, e => by
    simp at h
    subst h
    exact e
  | k :: ks, qs, b, h, e => by
    rw [List.mapM_cons] at h
    cases h1 : cv W k with
    | none => rw [h1] at h; simp at h
    | some p =>
      cases h2 : ks.mapM (cv W) with
      | none => rw [h1, h2] at h; simp at h
      | some ps =>
        rw [h1, h2] at h
        simp at h
        subst h
        unfold anyC at e
        cases h3 : c.sub t k with
        | none => rw [h3] at e; cases e
        | some k' =>
          have z := G.isi _ _ _ _ _ h3 hq h1
          show (match PySem.W.kitOne X.K q.2 p.2 with | some true => some true | some false => PySem.W.kitAny X.K q.2 (ps.map (·.2)) | none => none) = some b
          rw [z]
          rw [h3] at e
          cases k' with
          | true => exact e
          | false => exact any_kit G hq h2 e
theorem cv_rel {k : Str} {q : V × Value} (h : cv W k = some q) : ClsV q.1 q.2 := by
  unfold cv at h
  split at h
  · cases h; exact .ty _
  · split at h
    · cases h; exact .own _
    · rename_i _ C2
      cases hx : W.exc k with
      | none => rw [hx] at h; cases h
      | some C => rw [hx] at h; cases h; exact .own _
theorem cvs_rel : ∀ {ks : List Str} {qs : List (V × Value)}, ks.mapM (cv W) = some qs → Paired ClsV (qs.map (·.1)) (qs.map (·.2))
  | [], qs, h => by
    simp at h
    subst h
    exact .nil
  | k :: ks, qs, h => by
    rw [List.mapM_cons] at h
    cases h1 : cv W k with
    | none => rw [h1] at h; simp at h
    | some p =>
      cases h2 : ks.mapM (cv W) with
      | none => rw [h1, h2] at h; simp at h
      | some ps =>
        rw [h1, h2] at h
        simp at h
        subst h
        exact .cons (cv_rel h1) (cvs_rel h2)
theorem bi_isi (G : Good X W x c N sc) (ks : List Str) (one : Bool) : CallR X (.builtin "isinstance") (rIs W c ks one) := by
  intro pins sh σ H vs us Q I rv ⟨g, s, d, t, k, v, w, qs, r, na, ht, ha, ev, hks, hw, ⟨q, hq⟩, hQ⟩
  subst ev
  obtain ⟨u1, u2, rfl, r1, r2⟩ := vals2 rv
  obtain ⟨P, Z, hp, hx⟩ := kit_rep G I r na r1 ht hq
  have hka := any_kit G hq hks ha
  have hcv := cvs_rel hks
  cases one with
  | true =>
    simp only [if_true] at hw
    cases qs with
    | nil => simp at hw
    | cons p ps =>
      simp only [List.map_cons, List.cons.injEq, List.map_eq_nil_iff] at hw
      obtain ⟨hw1, hw2⟩ := hw
      subst hw1 hw2
      cases hcv with
      | cons cp _ =>
        have e2 := cp.eq r2
        subst e2
        have e3 : PySem.W.kitOne X.K q.2 p.2 = some k := by
          have z : (match PySem.W.kitOne X.K q.2 p.2 with | some true => some true | some false => some false | none => none) = some k := hka
          cases h : PySem.W.kitOne X.K q.2 p.2 with
          | none => rw [h] at z; cases z
          | some b => rw [h] at z; cases b <;> exact z
        exact PySem.W.kia_one Z I.kIn hp e3 hx fun tk => ⟨.bl k, H, I.tok tk, rfl, hQ⟩
  | false =>
    simp only [Bool.false_eq_true, if_false] at hw
    obtain ⟨tp, rfl, htp⟩ := hw
    cases (show u2 = Value.ref tp from r2)
    obtain ⟨_, its, rvs, o, h1, h2, n, h3⟩ := (show ObjOk X.prog X.w H sh.heap tp (.tup (qs.map (·.1))) from I.hok tp _ htp)
    have e3 := ClsV.all hcv rvs
    subst e3
    obtain ⟨oc, od, dt, sl⟩ := o
    simp only at h2 h3
    subst h2 h3
    exact PySem.W.kia_tup Z I.kIn hp h1 hka hx fun tk => ⟨.bl k, H, I.tok tk, rfl, hQ⟩
/-- a class named as a value -/
theorem pe_cls (G : Good X W x c N sc) {k : Str} {q : V × Value} (hq : cv W k = some q) (hg : sc.names.lookup k = some .globalImplicit) (hn : k ≠ "__name__") (hd : (k == ("__debug__" : Str)) = false)
    (hk : W.ty k = none ∨ k ∈ (["int", "bool", "str", "list", "tuple", "ValueError", "LookupError", "IndexError"] : List Str)) : PE X (.Name k p) (tC q.1) := by
  obtain ⟨h1, h2⟩ := G.clsG k q hq
  have hrel : RelV q.1 q.2 := by
    have z := cv_rel hq
    revert z
    generalize q.1 = q1
    generalize q.2 = q2
    intro z
    cases z with
    | ty n => exact rfl
    | own C => exact rfl
  cases ht : W.ty k with
  | none => exact pe_glob (G.gl hg) (h1 ht) hrel hd
  | some T =>
    rcases hk with hk | hk
    · rw [hk] at ht; cases ht
    · obtain ⟨z1, z2⟩ := h2 T ht hk
      have e : q = (.ty T, .type T) := by
        unfold cv at hq
        rw [ht] at hq
        exact (Option.some.inj hq).symm
      rw [e]
      exact pe_bltn (G.gl hg) z1 z2 rfl hn hd
structure NameOk (W : Wr) (sc : Scope) (k : Str) : Prop where
  cv : ∃ q, cv W k = some q
  gl : sc.names.lookup k = some .globalImplicit
  nn : k ≠ "__name__"
  nd : (k == ("__debug__" : Str)) = false
  ty : W.ty k = none ∨ k ∈ (["int", "bool", "str", "list", "tuple", "ValueError", "LookupError", "IndexError"] : List Str)
theorem ex_isi1 (G : Good X W x c N sc) {k : Str} {kp : Pos} (hs : noStar e = true) (hn : NameOk W sc k) (hc : ∀ t b, c.sub t k = some b → ∃ q, cv W t = some q) (hg : sc.names.lookup ("isinstance" : Str) = some .globalImplicit) (h : Ex X W x c e ma) :
    Ex X W x c (.Call (.Name "isinstance" p) [e, .Name k kp] [] pos) (.isi ma [k]) := by
  obtain ⟨q, hq⟩ := hn.cv
  refine (pe_callB (bi_isi G [k] true) (G.gl hg) (G.free _ (by decide)) boot_isinstance (pa_cons h (pa_cons (pe_cls G hq hn.gl hn.nn hn.nd hn.ty) pa_nil) (star_cons hs)) (by decide) (by decide) (star_cons hs)).imp fun σ H Q ⟨g, ρ, s, en, qq, f⟩ => ?_
  refine (stepE en qq f).mono fun v H1 ⟨d1, g1, s1, r1, a1⟩ => ?_
  obtain ⟨d2, h1, h2⟩ := Fin.lift a1.fin
  cases ht : tyD (look s1 d1) with
  | none => rw [ht] at h1; cases h1
  | some t =>
    rw [ht] at h1
    cases ha : anyC (c.sub t) [k] with
    | none => rw [show (some t).bind (fun t => (anyC (c.sub t) [k]).map D.bl) = (anyC (c.sub t) [k]).map D.bl from rfl, ha] at h1; cases h1
    | some b =>
      rw [show (some t).bind (fun t => (anyC (c.sub t) [k]).map D.bl) = (anyC (c.sub t) [k]).map D.bl from rfl, ha] at h1
      cases h1
      have hcs : ∃ b, c.sub t k = some b := by
        unfold anyC at ha
        cases z : c.sub t k with
        | none => rw [z] at ha; cases ha
        | some b => exact ⟨b, rfl⟩
      obtain ⟨b', hb'⟩ := hcs
      exact ⟨g1, s1, _, t, b, v, q.1, [q], a1.to.st, now_of a1.to.st r1, ht, ha, rfl, by simp [List.mapM_cons, hq], by simp, hc t b' hb', h2 g1 H1 (.refl a1.to.st) _ (.bl b)⟩
/-- a field -/
theorem ex_attr (G : Good X W x c N sc) {f : Str} (hp : plainA e = true) (h : Ex X W x c e ma) : Ex X W x c (.Attribute e f pos) (.attr ma f) := by
  refine ⟨fun pins sh σ H Q I ⟨g, ρ, s, en, q, fi⟩ => ?_⟩
  have rd := stepE en q fi
  refine L2.attr_of (plain_a hp) (thn (h.run pins sh σ H _ I rd) fun u sh1 ⟨v, H1, I1, rv, d1, g1, s1, r1, a1⟩ => ?_)
  have f1 := a1.fin
  cases r1 with
  | ins hc hi hf =>
    rename_i k fs a C dx vs
    have f2 : Fin W x σ g1 H1 s1 (fun d _ g' H' => ∀ v, Rep W g' d v → Q v H') (if c.fld k f = true then lift (fs.lookup f) s1 else .bad) := f1
    split at f2
    · rename_i hfl
      obtain ⟨z1, z2⟩ := G.insF _ _ _ hc hfl
      obtain ⟨d, h1, h2⟩ := Fin.lift f2
      obtain ⟨w, h3, h4⟩ := hf.get h1
      cases rv
      exact getattr_ok I1 (a1.to.st.sub _ _ hi) z2 z1 h3 fun u' sh2 I2 ru => ⟨w, H1, I2, ru, h2 g1 H1 (.refl a1.to.st) w h4⟩
    · exact f2.elim
  | exc hc hi hd hf =>
    rename_i k fs a C dx vs
    have f2 : Fin W x σ g1 H1 s1 (fun d _ g' H' => ∀ v, Rep W g' d v → Q v H') (if c.fld k f = true then lift (fs.lookup f) s1 else .bad) := f1
    split at f2
    · rename_i hfl
      obtain ⟨z1, z2⟩ := G.excF _ _ _ hc hfl
      obtain ⟨d, h1, h2⟩ := Fin.lift f2
      obtain ⟨w, h3, h4⟩ := hf.get h1
      cases rv
      obtain ⟨t1, ho⟩ := exo_at I1.hok (a1.to.st.sub _ _ hi)
      obtain ⟨mA, hns, hr⟩ := exd_at I1.hok (a1.to.st.sub _ _ hd)
      obtain ⟨od, hod, hl⟩ := lookIn_ns hns
      obtain ⟨u, hu, ru⟩ := RelO.some_of (v := w) (o := mA f) (by rw [← h3]; exact hr f)
      have J : PySem.W.InstAt sh1.heap a _ C (some od) := ⟨ho, rfl, rfl, hod⟩
      exact HandSPX.exc_get I1.kIn J z2.hg z2.hk z2.hs (PySem.W.findObj_own z2.hd z1 rfl (by rw [hl, hu])) (handed_of ru) ⟨w, H1, I1.tok _, ru, h2 g1 H1 (.refl a1.to.st) w h4⟩
    · exact f2.elim
  | _ => exact f1.elim
/-! ### tests -/
theorem tx_val (G : Good X W x c N sc) (hp : plainT e = true) (h : Ex X W x c e ma) : Tx X W x c e (.val ma) := by
  refine ⟨fun pins sh σ H Q I ⟨g, ρ, s, en, q, f⟩ => ?_⟩
  have rd := stepE en q f
  refine isTrue_plain (thn (h.run pins sh σ H _ I rd) fun u sh1 ⟨v, H1, I1, rv, d1, g1, s1, r1, a1⟩ => ?_) (plain_t hp _)
  obtain ⟨k, h1, h2⟩ := Fin.lift a1.fin
  exact trr_tru G.K pins sh1 σ H1 v u Q I1 rv ⟨g1, s1, d1, k, a1.to.st, r1, h1, h2 g1 H1 (.refl a1.to.st)⟩
abbrev Wx (X : Cx) (W : Wr) (x : XW) (c : Cxt) (e : Expr) (m : C) : Prop := PW X e (RdC W x (evC c m))
variable {t u : C} {rest : List Expr}
theorem wx_and1 (h : Tx X W x c a t) : Wx X W x c (.BoolOp .And [a] pos) t := pw_and1 h
theorem wx_or1 (h : Tx X W x c a t) : Wx X W x c (.BoolOp .Or [a] pos) t := pw_or1 h
theorem wx_and (h : Tx X W x c a t) (h2 : Wx X W x c (.BoolOp .And (b :: rest) pos) u) : Wx X W x c (.BoolOp .And (a :: b :: rest) pos) (.and t u) :=
  (pw_and h h2).imp fun σ H Q ⟨g, ρ, s, en, q, f⟩ => by
    refine (stepC en q f).mono fun k H1 ⟨g1, s1, a1⟩ => ?_
    have f1 := a1.fin
    cases k with
    | true => exact ⟨g1, ρ, s1, a1.env, a1.to.st, f1⟩
    | false => exact f1 g1 H1 (.refl a1.to.st)
theorem wx_or (h : Tx X W x c a t) (h2 : Wx X W x c (.BoolOp .Or (b :: rest) pos) u) : Wx X W x c (.BoolOp .Or (a :: b :: rest) pos) (.or t u) :=
  (pw_or h h2).imp fun σ H Q ⟨g, ρ, s, en, q, f⟩ => by
    refine (stepC en q f).mono fun k H1 ⟨g1, s1, a1⟩ => ?_
    have f1 := a1.fin
    cases k with
    | false => exact ⟨g1, ρ, s1, a1.env, a1.to.st, f1⟩
    | true => exact f1 g1 H1 (.refl a1.to.st)
theorem tx_not (h : Tx X W x c a t) : Tx X W x c (.UnaryOp .Not a pos) (.not t) :=
  (pt_not h).imp fun σ H Q ⟨g, ρ, s, en, q, f⟩ => by
    refine (stepC en q f).mono fun k H1 ⟨g1, s1, a1⟩ => ?_
    exact a1.fin g1 H1 (.refl a1.to.st)
end
end NM
end

section
set_option linter.all false
set_option maxHeartbeats 2000000
set_option autoImplicit false
/-! NM: what is walked; comprehensions. -/
namespace NM
open PySem PyProof.Rows L2

/-- a walk that yields the items ds, one after another, wherever one stands later -/
structure Feeds (W : Wr) (J : L2.It) (g0 : Gh) (ds : List D) : Prop where
  go : ∀ (i : Nat) g H s, Ext g0 g → SR W g H s → i < ds.length → J.go i H
  stop : ∀ (i : Nat) g H s, Ext g0 g → SR W g H s → i = ds.length → J.stop i H
  yld : ∀ (i : Nat) g H s v H' d, Ext g0 g → SR W g H s → ds[i]? = some d → J.yld i H v H' → ∃ g', To W g H s g' H' s ∧ Rep W g' d v
def RdI (W : Wr) (x : XW) (m : Env → S → R (List D)) : TI := fun σ H R => ∃ g ρ s, EnvR W g ρ σ ∧ SR W g H s ∧ Fin W x σ g H s (fun ds _ g' H' => ∀ J, Feeds W J g' ds → R J H') (m ρ s)
theorem _root_.L2.PI.imp {X : Cx} {tg e : Expr} {t t' : TI} (h : PI X tg e t) (i : ∀ σ H R, t' σ H R → t σ H R) : PI X tg e t' := ⟨fun pins s σ H R I q => h.run pins s σ H R I (i σ H R q)⟩

section
variable {W : Wr} {g : Gh}
theorem Reps.lt {ds : List D} {vs : List V} (r : Reps W g ds vs) {i : Nat} (h : i < ds.length) : ∃ v, vs[i]? = some v := by
  have : i < vs.length := by rw [r.len]; exact h
  exact ⟨vs[i], by simp [this]⟩
theorem feeds_list {a : Addr} {ds : List D} {xs : List V} (h : g.G a = some (.lst xs)) (r : Reps W g ds xs) : Feeds W (Itl W.K a) g ds where
  go := fun i g' H s e q hi => by
    obtain ⟨v, hv⟩ := r.lt hi
    exact ⟨xs, v, SqL.of (q.sub _ _ (e.G _ _ h)), hv⟩
  stop := fun i g' H s e q hi => ⟨xs, SqL.of (q.sub _ _ (e.G _ _ h)), by rw [r.len]; omega⟩
  yld := fun i g' H s v H' d e q hd ⟨h1, h2⟩ => by
    subst h1
    obtain ⟨w, h3, h4⟩ := r.get hd
    have := h2 xs (SqL.of (q.sub _ _ (e.G _ _ h)))
    rw [h3] at this
    cases this
    exact ⟨g', .refl q, h4.up e⟩
theorem feeds_tup {a : Addr} {ds : List D} {xs : List V} (h : SqT W.K g.G a xs) (r : Reps W g ds xs) : Feeds W (Itt W.K a) g ds where
  go := fun i g' H s e q hi => by
    obtain ⟨v, hv⟩ := r.lt hi
    exact ⟨xs, v, SqT.up q.sub (SqT.up e.G h), hv⟩
  stop := fun i g' H s e q hi => ⟨xs, SqT.up q.sub (SqT.up e.G h), by rw [r.len]; omega⟩
  yld := fun i g' H s v H' d e q hd ⟨h1, h2⟩ => by
    subst h1
    obtain ⟨w, h3, h4⟩ := r.get hd
    have := h2 xs (SqT.up q.sub (SqT.up e.G h))
    rw [h3] at this
    cases this
    exact ⟨g', .refl q, h4.up e⟩
theorem rng_len : ∀ (n : Nat) (lo : Int), (rngD lo n).length = n
  | 0, _ => rfl
  | n + 1, lo => congrArg (· + 1) (rng_len n (lo + 1))
theorem rng_get : ∀ (n : Nat) (lo : Int) (i : Nat) (d : D), (rngD lo n)[i]? = some d → d = .int (lo + i)
  | 0, _, _, _, h => by simp [rngD] at h
  | n + 1, lo, 0, d, h => by simp [rngD] at h; rw [← h]; simp
  | n + 1, lo, i + 1, d, h => by
    have := rng_get n (lo + 1) i d (by simpa [rngD] using h)
    rw [this]
    congr 1
    omega
theorem feeds_rng (lo : Int) (n : Nat) : Feeds W (Itr lo n) g (rngD lo n) where
  go := fun i g' H s e q hi => by rw [rng_len] at hi; exact hi
  stop := fun i g' H s e q hi => by rw [rng_len] at hi; exact Nat.le_of_eq hi.symm
  yld := fun i g' H s v H' d e q hd ⟨h1, h2⟩ => by
    subst h1 h2
    rw [rng_get n lo i d hd]
    exact ⟨g', .refl q, .int _⟩
theorem zipL_get {ds es : List D} {i : Nat} {d : D} (h : ((ds.zip es).map fun p => D.tup [p.1, p.2])[i]? = some d) : ∃ a b, ds[i]? = some a ∧ es[i]? = some b ∧ d = .tup [a, b] := by
  rw [List.getElem?_map] at h
  cases e : (ds.zip es)[i]? with
  | none => rw [e] at h; cases h
  | some p =>
    rw [e] at h
    cases h
    rw [List.getElem?_zip_eq_some] at e
    exact ⟨p.1, p.2, e.1, e.2, rfl⟩
theorem pair_new {g : Gh} {H H' : Hp} {s : S} (q : SR W g H s) {T : Addr} {v w : V} {a b : D} (hT : H T = none) (hH : H' = upd H T (.tup [v, w])) (ra : Rep W g a v) (rb : Rep W g b w) : ∃ g', To W g H s g' H' s ∧ Rep W g' (.tup [a, b]) (.ref T) := by
  subst hH
  exact ⟨g.new T (.tup [v, w]), to_new q hT, .tup (SqT.of new_at) (Reps.up (ext_new (q.gnone hT)) (.cons ra (.cons rb .nil)))⟩
theorem feeds_zipL {a b : Addr} {ds es : List D} {xs ys : List V} (h : g.G a = some (.lst xs)) (h' : g.G b = some (.lst ys)) (r : Reps W g ds xs) (r' : Reps W g es ys) : Feeds W (Itz W.K a b) g ((ds.zip es).map fun p => .tup [p.1, p.2]) where
  go := fun i g' H s e q hi => by
    simp at hi
    obtain ⟨v, hv⟩ := r.lt (i := i) (by omega)
    obtain ⟨w, hw⟩ := r'.lt (i := i) (by omega)
    exact ⟨xs, ys, v, w, SqL.of (q.sub _ _ (e.G _ _ h)), SqL.of (q.sub _ _ (e.G _ _ h')), hv, hw⟩
  stop := fun i g' H s e q hi => by
    simp at hi
    refine ⟨xs, ys, SqL.of (q.sub _ _ (e.G _ _ h)), SqL.of (q.sub _ _ (e.G _ _ h')), ?_⟩
    rw [r.len, r'.len]
    omega
  yld := fun i g' H s v H' d e q hd ⟨T, v1, w1, h1, h2, h3, h4, h5⟩ => by
    obtain ⟨p1, p2, e1, e2, rfl⟩ := zipL_get hd
    obtain ⟨v2, h6, h7⟩ := r.get e1
    obtain ⟨w2, h8, h9⟩ := r'.get e2
    have z1 := h4 xs (SqL.of (q.sub _ _ (e.G _ _ h)))
    have z2 := h5 ys (SqL.of (q.sub _ _ (e.G _ _ h')))
    rw [h6] at z1
    rw [h8] at z2
    cases z1
    cases z2
    subst h1
    exact pair_new q h2 h3 (h7.up e) (h9.up e)
theorem feeds_zipT {a b : Addr} {ds es : List D} {xs ys : List V} (h : SqT W.K g.G a xs) (h' : SqT W.K g.G b ys) (r : Reps W g ds xs) (r' : Reps W g es ys) : Feeds W (RZ.ItzT W.K a b) g ((ds.zip es).map fun p => .tup [p.1, p.2]) where
  go := fun i g' H s e q hi => by
    simp at hi
    obtain ⟨v, hv⟩ := r.lt (i := i) (by omega)
    obtain ⟨w, hw⟩ := r'.lt (i := i) (by omega)
    exact ⟨xs, ys, v, w, SqT.up q.sub (SqT.up e.G h), SqT.up q.sub (SqT.up e.G h'), hv, hw⟩
  stop := fun i g' H s e q hi => by
    simp at hi
    refine ⟨xs, ys, SqT.up q.sub (SqT.up e.G h), SqT.up q.sub (SqT.up e.G h'), ?_⟩
    rw [r.len, r'.len]
    omega
  yld := fun i g' H s v H' d e q hd ⟨T, v1, w1, h1, h2, h3, h4, h5⟩ => by
    obtain ⟨p1, p2, e1, e2, rfl⟩ := zipL_get hd
    obtain ⟨v2, h6, h7⟩ := r.get e1
    obtain ⟨w2, h8, h9⟩ := r'.get e2
    have z1 := h4 xs (SqT.up q.sub (SqT.up e.G h))
    have z2 := h5 ys (SqT.up q.sub (SqT.up e.G h'))
    rw [h6] at z1
    rw [h8] at z2
    cases z1
    cases z2
    subst h1
    exact pair_new q h2 h3 (h7.up e) (h9.up e)
def enuD (xs : List D) : List D := ((List.range xs.length).zip xs).map fun p => .tup [.int p.1, p.2]
theorem feeds_enu {a : Addr} {ds : List D} {xs : List V} (h : g.G a = some (.lst xs)) (r : Reps W g ds xs) : Feeds W (Ite W.K a) g (enuD ds) where
  go := fun i g' H s e q hi => by
    simp [enuD] at hi
    obtain ⟨v, hv⟩ := r.lt (i := i) (by omega)
    exact ⟨xs, v, SqL.of (q.sub _ _ (e.G _ _ h)), hv⟩
  stop := fun i g' H s e q hi => by
    simp [enuD] at hi
    exact ⟨xs, SqL.of (q.sub _ _ (e.G _ _ h)), by rw [r.len]; omega⟩
  yld := fun i g' H s v H' d e q hd ⟨T, v1, h1, h2, h3, h4⟩ => by
    unfold enuD at hd
    rw [List.getElem?_map] at hd
    cases ez : ((List.range ds.length).zip ds)[i]? with
    | none => rw [ez] at hd; cases hd
    | some p =>
      rw [ez] at hd
      cases hd
      rw [List.getElem?_zip_eq_some] at ez
      obtain ⟨e1, e2⟩ := ez
      have e3 : p.1 = i := by
        have := (List.getElem?_eq_some_iff.mp e1).2
        simpa using this.symm
      obtain ⟨v2, h6, h7⟩ := r.get e2
      have z1 := h4 xs (SqL.of (q.sub _ _ (e.G _ _ h)))
      rw [h6] at z1
      cases z1
      subst h1
      show ∃ g2, To W g' H s g2 H' s ∧ Rep W g2 (D.tup [.int ((p.1 : Nat) : Int), p.2]) _
      rw [e3]
      exact pair_new q h2 h3 (.int _) (h7.up e)
end

section
variable {X : Cx} {W : Wr} {x : XW} {c : Cxt} {N : List Str} {sc : Scope}
variable {a b e tg : Expr} {ma mb : E} {pos p : Pos}
/-- a list or a tuple walked -/
theorem pi_seq (G : Good X W x c N sc) (h : Ex X W x c e ma) : PI X tg e (RdI W x (evI c (.seq ma))) := by
  refine ⟨fun pins sh σ H R I ⟨g, ρ, s, en, q, f⟩ => ?_⟩
  refine thn (h.run pins sh σ H _ I (stepE en q f)) fun u sh1 ⟨v, H1, I1, rv, d1, g1, s1, r1, a1⟩ => ?_
  obtain ⟨ds, h1, h2⟩ := Fin.lift a1.fin
  have fresh : ∀ b ∈ [sh1.heap.objs.size], FpOk X pins H1 b := fun b hb => by
    cases List.mem_singleton.mp hb
    exact I1.fpOk (Nat.le_refl _) (I1.hok.fresh (Nat.le_refl _))
  cases r1 with
  | lst hG hr =>
    cases rv
    cases h1
    have hq := SqL.of (K := X.K) (a1.to.st.sub _ _ hG)
    obtain ⟨its, _, pl, _⟩ := I1.list hq
    exact wpAny_pyIter_list pl.isList ⟨sh1.heap.objs.size, [sh1.heap.objs.size], _, _, H1, rfl, I1.kept (t' := sh1.toks) (fun b o z => Heap.get?_push_of_some _ z), turn_list _ _, ⟨_, Heap.get?_push_size _ rfl, rfl, rfl⟩, fresh,
      h2 g1 H1 (.refl a1.to.st) _ (G.K ▸ feeds_list hG hr)⟩
  | tup hG hr =>
    cases rv
    cases h1
    have hq := SqT.up a1.to.st.sub hG
    rw [G.K] at hq
    obtain ⟨its, _, pl, _⟩ := I1.tuple hq
    exact wpAny_pyIter_tuple (show sh1.heap.IsTuple _ its.toArray from pl) ⟨sh1.heap.objs.size, [sh1.heap.objs.size], _, _, H1, rfl, I1.kept (t' := sh1.toks) (fun b o z => Heap.get?_push_of_some _ z), turn_tuple _ _, ⟨_, Heap.get?_push_size _ rfl, rfl, rfl⟩, fresh,
      h2 g1 H1 (.refl a1.to.st) _ (G.K ▸ feeds_tup hG hr)⟩
  | str z => cases h1
  | non => cases h1
  | bl _ => cases h1
  | int _ => cases h1
  | ins _ _ _ => cases h1
  | exc _ _ _ _ => cases h1
  | ref _ => cases h1
  | scr _ _ => cases h1
theorem pi_rng1 (G : Good X W x c N sc) (hs : noStar a = true) (hg : sc.names.lookup ("range" : Str) = some .globalImplicit) (h : Ex X W x c a ma) : PI X tg (.Call (.Name "range" p) [a] [] pos) (RdI W x (evI c (.rng1 ma))) :=
  (pi_range1 (G.gl hg) (G.free _ (by decide)) (pa_cons h pa_nil (star_cons hs)) (star_cons hs)).imp fun σ H R ⟨g, ρ, s, en, q, f⟩ => by
    refine (stepE en q f).mono fun v H1 ⟨d1, g1, s1, r1, a1⟩ => ?_
    have f2 := a1.fin
    split at f2
    · cases r1
      split at f2
      · rename_i hb
        exact ⟨_, rfl, by omega, by omega, f2 g1 H1 (.refl a1.to.st) _ (feeds_rng 0 _)⟩
      · exact f2.elim
    · exact f2.elim
theorem pi_rng2 (G : Good X W x c N sc) (hs : noStar a = true) (hs2 : noStar b = true) (hg : sc.names.lookup ("range" : Str) = some .globalImplicit) (h : Ex X W x c a ma) (h2 : Ex X W x c b mb) : PI X tg (.Call (.Name "range" p) [a, b] [] pos) (RdI W x (evI c (.rng2 ma mb))) :=
  (pi_range2 (G.gl hg) (G.free _ (by decide)) (pa_cons h (pa_cons h2 pa_nil (star_cons hs2)) (star_cons hs)) (by rw [star_cons hs, star_cons hs2]; rfl) (star_cons hs2)).imp fun σ H R ⟨g, ρ, s, en, q, f⟩ => by
    refine (stepE en q f).mono fun v H1 ⟨d1, g1, s1, r1, a1⟩ => ?_
    refine (stepE a1.env a1.to.st a1.fin).mono fun w H2 ⟨d2, g2, s2, r2, a2⟩ => ?_
    have f2 := a2.fin
    split at f2
    · cases r1
      cases r2
      split at f2
      · rename_i hb
        exact ⟨_, _, rfl, by omega, f2 g2 H2 (.refl a2.to.st) _ (feeds_rng _ _)⟩
      · exact f2.elim
    · exact f2.elim
theorem pi_enu (G : Good X W x c N sc) {elts : List Expr} {kk : Nat} {tpos : Pos} (hs : noStar a = true) (hg : sc.names.lookup ("enumerate" : Str) = some .globalImplicit) (h : Ex X W x c a ma) : PI X (.Tuple elts kk tpos) (.Call (.Name "enumerate" p) [a] [] pos) (RdI W x (evI c (.enu ma))) :=
  (pi_enum (G.gl hg) (G.free _ (by decide)) (pa_cons h pa_nil (star_cons hs)) (star_cons hs)).imp fun σ H R ⟨g, ρ, s, en, q, f⟩ => by
    refine (stepE en q f).mono fun v H1 ⟨d1, g1, s1, r1, a1⟩ => ?_
    have f2 := a1.fin
    split at f2
    · cases r1 with
      | lst hG hr => exact ⟨_, _, rfl, SqL.of (a1.to.st.sub _ _ hG), f2 g1 H1 (.refl a1.to.st) _ (G.K ▸ feeds_enu hG hr)⟩
    · exact f2.elim
theorem pi_zip2 (G : Good X W x c N sc) {elts : List Expr} {kk : Nat} {tpos : Pos} (hs : noStar a = true) (hs2 : noStar b = true) (hg : sc.names.lookup ("zip" : Str) = some .globalImplicit) (h : Ex X W x c a ma) (h2 : Ex X W x c b mb) : PI X (.Tuple elts kk tpos) (.Call (.Name "zip" p) [a, b] [] pos) (RdI W x (evI c (.zip ma mb))) :=
  (RZ.pi_zipA (G.gl hg) (G.free _ (by decide)) (pa_cons h (pa_cons h2 pa_nil (star_cons hs2)) (star_cons hs)) (star_cons hs) (star_any (by simp [hs2]))).imp fun σ H R ⟨g, ρ, s, en, q, f⟩ => by
    refine (stepE en q f).mono fun v H1 ⟨d1, g1, s1, r1, a1⟩ => ?_
    refine (stepE a1.env a1.to.st a1.fin).mono fun w H2 ⟨d2, g2, s2, r2, a2⟩ => ?_
    have f2 := a2.fin
    have r1' := r1.up a2.to.ext
    split at f2
    · cases r1' with
      | lst h1 q1 => cases r2 with
        | lst h2 q2 => exact ⟨_, _, _, _, rfl, .inl ⟨SqL.of (a2.to.st.sub _ _ h1), SqL.of (a2.to.st.sub _ _ h2), f2 g2 H2 (.refl a2.to.st) _ (G.K ▸ feeds_zipL h1 h2 q1 q2)⟩⟩
    · cases r1' with
      | tup h1 q1 => cases r2 with
        | tup h2 q2 => exact ⟨_, _, _, _, rfl, .inr ⟨G.K ▸ SqT.up a2.to.st.sub h1, G.K ▸ SqT.up a2.to.st.sub h2, f2 g2 H2 (.refl a2.to.st) _ (G.K ▸ feeds_zipT h1 h2 q1 q2)⟩⟩
    · exact f2.elim
end
end NM
end

section
set_option linter.all false
set_option maxHeartbeats 2000000
set_option autoImplicit false
/-! NM: targets, comprehensions. -/
namespace NM
open PySem PyProof.Rows L2

mutual
def T.slots : T → List Nat
  | .v i => [i]
  | .tup ts => T.slotsL ts
def T.slotsL : List T → List Nat
  | [] => []
  | t :: ts => t.slots ++ T.slotsL ts
end
/-- only some slots changed -/
structure OnlyS (is : List Nat) (σ σ' : L2.St) : Prop where
  len : σ'.length = σ.length
  same : ∀ j, j ∉ is → σ'[j]? = σ[j]?
theorem OnlyS.refl {is : List Nat} {σ : L2.St} : OnlyS is σ σ := ⟨rfl, fun _ _ => rfl⟩
theorem OnlyS.trans {is js : List Nat} {a b d : L2.St} (h : OnlyS is a b) (k : OnlyS js b d) : OnlyS (is ++ js) a d :=
  ⟨k.len.trans h.len, fun j hj => by
    rw [List.mem_append] at hj
    rw [k.same j fun z => hj (.inr z), h.same j fun z => hj (.inl z)]⟩
theorem wipe_at (σ : L2.St) (j : Nat) : ∀ vs : List Nat, (wipe σ vs)[j]? = if j ∈ vs ∧ j < σ.length then some none else σ[j]? := by
  intro vs
  induction vs with
  | nil => simp [wipe]
  | cons i vs ih =>
    show ((wipe σ vs).set i none)[j]? = _
    by_cases h : i = j
    · subst h
      by_cases hl : i < σ.length
      · rw [List.getElem?_set_self (by rw [wipe_length]; exact hl)]
        simp [hl]
      · rw [List.getElem?_eq_none (by simp [wipe_length]; omega)]
        simp [hl]
    · rw [List.getElem?_set_ne h, ih]
      have : j ≠ i := fun z => h z.symm
      simp [this]
theorem wipe_only {is vs : List Nat} {σ σ' : L2.St} (h : OnlyS is σ σ') (hs : ∀ i ∈ is, i ∈ vs) : wipe σ' vs = wipe σ vs := by
  apply List.ext_getElem?
  intro j
  rw [wipe_at, wipe_at, h.len]
  by_cases hj : j ∈ vs
  · by_cases hl : j < σ.length
    · simp [hj, hl]
    · have h1 : σ'[j]? = none := List.getElem?_eq_none (by rw [h.len]; omega)
      have h2 : σ[j]? = none := List.getElem?_eq_none (by omega)
      simp [hl, h1, h2]
  · simp [hj]
    exact h.same j fun z => hj (hs j z)
theorem wipe_wipe {vs : List Nat} {σ : L2.St} : wipe (wipe σ vs) vs = wipe σ vs := by
  apply List.ext_getElem?
  intro j
  rw [wipe_at, wipe_at, wipe_length]
  by_cases hj : j ∈ vs ∧ j < σ.length
  · simp [hj]
  · rw [if_neg hj, if_neg hj]
theorem wipeE_len (ρ : Env) : ∀ vs : List Nat, (wipeE ρ vs).length = ρ.length
  | [] => rfl
  | i :: vs => by show (wipeE (ρ.set i none) vs).length = _; rw [wipeE_len]; simp
theorem wipeE_some {i : Nat} {d : D} : ∀ {vs : List Nat} {ρ : Env}, (wipeE ρ vs)[i]? = some (some d) → ρ[i]? = some (some d) ∧ i ∉ vs
  | [], _, h => ⟨h, by simp⟩
  | j :: vs, ρ, h => by
    obtain ⟨h1, h2⟩ := wipeE_some (vs := vs) (ρ := ρ.set j none) h
    by_cases e : j = i
    · subst e
      rw [List.getElem?_set] at h1
      split at h1
      · split at h1 <;> cases h1
      · rename_i z; exact absurd rfl z
    · rw [List.getElem?_set_ne e] at h1
      exact ⟨h1, by simp [h2, Ne.symm e]⟩
theorem EnvR.wipe {W : Wr} {g : Gh} {ρ : Env} {σ : L2.St} (e : EnvR W g ρ σ) (vs : List Nat) : EnvR W g (wipeE ρ vs) (L2.wipe σ vs) :=
  ⟨by rw [wipe_length, wipeE_len]; exact e.len, fun i d h => by
    obtain ⟨h1, h2⟩ := wipeE_some h
    obtain ⟨v, h3, h4⟩ := e.at_ i d h1
    refine ⟨v, ?_, h4⟩
    rw [wipe_at, if_neg fun z => h2 z.1]
    exact h3⟩

/-! ### targets -/
mutual
def tgV (K : PySem.W.Frag) : T → TG
  | .v i => gName i
  | .tup ts => gTup K ts.length (tgVs K ts)
def tgVs (K : PySem.W.Frag) : List T → TGs
  | [] => gNil
  | t :: ts => gCons (tgV K t) (tgVs K ts)
end
section
variable {W : Wr} {g : Gh} {H : Hp}
mutual
theorem tg_go (hs : ∀ a o, g.G a = some o → H a = some o) : ∀ (t : T) {d : D} {v : V} {ρ ρ' : Env} {σ : L2.St} {Q : L2.St → Hp → Prop}, EnvR W g ρ σ → Rep W g d v → t.set d ρ = some ρ' → (∀ σ', EnvR W g ρ' σ' → OnlyS t.slots σ σ' → Q σ' H) → tgV W.K t v σ H Q
  | .v i, d, v, ρ, ρ', σ, Q, en, r, h, k => by
    have h' : (if i < ρ.length then some (ρ.set i (some d)) else none) = some ρ' := h
    by_cases hi : i < ρ.length
    · rw [if_pos hi] at h'
      cases h'
      refine k _ (en.set i r) ⟨by simp, fun j hj => ?_⟩
      rw [List.getElem?_set_ne fun z => hj (by simp [T.slots, z])]
    · rw [if_neg hi] at h'
      cases h'
  | .tup ts, d, v, ρ, ρ', σ, Q, en, r, h, k => by
    cases r with
    | tup hG hr =>
      rename_i ds a xs
      have h' : T.sets ts ds ρ = some ρ' := h
      exact ⟨a, xs, rfl, SqT.up hs hG, by rw [hr.len]; exact sets_len h', tgs_go hs ts en hr h' k⟩
    | _ => cases h
theorem tgs_go (hs : ∀ a o, g.G a = some o → H a = some o) : ∀ (ts : List T) {ds : List D} {vs : List V} {ρ ρ' : Env} {σ : L2.St} {Q : L2.St → Hp → Prop}, EnvR W g ρ σ → Reps W g ds vs → T.sets ts ds ρ = some ρ' → (∀ σ', EnvR W g ρ' σ' → OnlyS (T.slotsL ts) σ σ' → Q σ' H) → tgVs W.K ts vs σ H Q
  | [], ds, vs, ρ, ρ', σ, Q, en, r, h, k => by
    cases r with
    | nil =>
      cases (show some ρ = some ρ' from h)
      exact ⟨rfl, k σ en .refl⟩
    | cons _ _ => cases h
  | t :: ts, ds, vs, ρ, ρ', σ, Q, en, r, h, k => by
    cases r with
    | nil => cases h
    | cons r0 r1 =>
      rename_i d ds v vs
      have h' : (match t.set d ρ with | some ρ1 => T.sets ts ds ρ1 | none => none) = some ρ' := h
      cases e : t.set d ρ with
      | none => rw [e] at h'; cases h'
      | some ρ1 =>
        rw [e] at h'
        exact ⟨v, vs, rfl, tg_go hs t en r0 e fun σ1 en1 o1 => tgs_go hs ts en1 r1 h' fun σ2 en2 o2 => k σ2 en2 (o1.trans o2)⟩
theorem sets_len : ∀ {ts : List T} {ds : List D} {ρ ρ' : Env}, T.sets ts ds ρ = some ρ' → ds.length = ts.length
  | [], [], _, _, _ => rfl
  | [], _ :: _, _, _, h => by cases h
  | _ :: _, [], _, _, h => by cases h
  | t :: ts, d :: ds, ρ, ρ', h => by
    have h' : (match t.set d ρ with | some ρ1 => T.sets ts ds ρ1 | none => none) = some ρ' := h
    cases e : t.set d ρ with
    | none => rw [e] at h'; cases h'
    | some ρ1 =>
      rw [e] at h'
      exact congrArg (· + 1) (sets_len h')
end
end

/-! ### comprehensions -/
/-- an object beside all that is told -/
theorem SR.side {W : Wr} {g : Gh} {H : Hp} {s : S} (r : SR W g H s) {p : Addr} {o : HO} (hg : g.G p = none) (hl : ¬ LiveAt g s p) : SR W g (upd H p o) s :=
  ⟨fun a u h => by rw [upd_ne fun z => by rw [z, hg] at h; cases h]; exact r.sub a u h, r.len, fun n m h => by
    obtain ⟨a, h1, h2⟩ := r.mo n m h
    refine ⟨a, h1, ?_⟩
    cases m with
    | lst ds =>
      obtain ⟨xs, h3, h4, h5⟩ := h2
      exact ⟨xs, by rw [upd_ne fun z => hl ⟨n, _, h, trivial, by rw [← z]; exact h1⟩]; exact h3, h4, h5⟩
    | frz d => exact h2
    | gone => trivial, r.ne⟩
/-- .. taken into what is fixed -/
theorem SR.adopt {W : Wr} {g : Gh} {H : Hp} {s : S} (r : SR W g H s) {p : Addr} {o : HO} (hp : H p = some o) (hg : g.G p = none) (hl : ¬ LiveAt g s p) : SR W (g.new p o) H s := by
  have x : Ext g (g.new p o) := ext_new hg
  refine ⟨fun a u h => ?_, r.len, fun n m e => ?_, r.ne⟩
  · by_cases ha : a = p
    · subst ha
      have h' : upd g.G a o a = some u := h
      rw [upd_same] at h'
      rw [hp]; exact h'
    · have h' : upd g.G p o a = some u := h
      rw [upd_ne ha] at h'
      exact r.sub a u h'
  · obtain ⟨a, h1, h2⟩ := r.mo n m e
    refine ⟨a, h1, ?_⟩
    cases m with
    | lst ds =>
      obtain ⟨xs, h3, h4, h5⟩ := h2
      exact ⟨xs, h3, h4.up x, by show upd g.G p o a = none; rw [upd_ne fun z => hl ⟨n, _, e, trivial, by rw [← z]; exact h1⟩]; exact h5⟩
    | frz d => exact h2.up x
    | gone => trivial
def xF : XW := fun _ _ _ _ _ => False
section
variable {W : Wr} {x : XW} {σ σ2 : L2.St} {H Hb : Hp} {β : Type} {g gb : Gh} {ρ : Env} {s sb : S} {K : β → S → Gh → Hp → Prop}
theorem calmC {m : Env → S → R Bool} {f : Bool → S → R β} (e : EnvR W g ρ σ2) (r : SR W g H s) (h : Fin W x σ gb Hb sb K ((m ρ s).calm.bind f)) :
    RdC W xF m σ2 H fun k H1 => ∃ g1 s1, To W g H s g1 H1 s1 ∧ EnvR W g1 ρ σ2 ∧ Fin W x σ gb Hb sb K (f k s1) := by
  refine ⟨g, ρ, s, e, r, ?_⟩
  cases hm : m ρ s with
  | ok a b => rw [hm] at h; exact fun g' H' t => ⟨g', b, t, e.up t.ext, h⟩
  | exn a b => rw [hm] at h; exact h.elim
  | bad => rw [hm] at h; exact h.elim
theorem calmE {m : Env → S → R D} {f : D → S → R β} (e : EnvR W g ρ σ2) (r : SR W g H s) (h : Fin W x σ gb Hb sb K ((m ρ s).calm.bind f)) :
    RdE W xF m σ2 H fun v H1 => ∃ d g1 s1, Rep W g1 d v ∧ To W g H s g1 H1 s1 ∧ Fin W x σ gb Hb sb K (f d s1) := by
  refine ⟨g, ρ, s, e, r, ?_⟩
  cases hm : m ρ s with
  | ok a b => rw [hm] at h; exact fun g' H' t v q => ⟨a, g', b, q, t, h⟩
  | exn a b => rw [hm] at h; exact h.elim
  | bad => rw [hm] at h; exact h.elim
theorem bind_assoc' {α γ : Type} (m : R α) (f : α → S → R β) (k : β → S → R γ) : (m.bind f).bind k = m.bind fun a s => (f a s).bind k := by
  cases m <;> rfl
end
section
variable {X : Cx} {W : Wr} {x : XW} {c : Cxt} {N : List Str} {sc : Scope}
theorem Good.blk (G : Good X W x c N sc) (s : Shared) (H : Hp) (scope : Scope) (C : Addr) (cl : List (Str × Addr)) (fp : List Addr) : Good (X.blk s H scope (compEnvC scope cl C X.env) fp) W xF c N (relS scope sc) :=
  ⟨G.K, G.N, G.nd, by rw [← G.sc]; rfl, G.calm, G.units, G.con, G.free, G.own, G.new, fun _ _ ⟨_, _, _, _, _, _, _, _, _, _, _, _, _, _, _, _, ⟨_, _, _, _, _, z⟩⟩ => z.elim, PassesOwn.never, G.insF, G.excF, G.bty, G.insC, G.excC, G.isi, G.clsG⟩
theorem lc_read {own : List (Str × Nat)} {me : E} {t : T} {mi : It} {mt : C} {σ : L2.St} {H : Hp} {Q : VK} (ho : ∀ i ∈ t.slots, i ∈ own.map (·.2)) (h : RdE W x (ev c (.lc (own.map (·.2)) me t mi mt)) σ H Q) :
    tLc (RdI W x (evI c mi)) (tgV W.K t) (RdC W xF (evC c mt)) (RdE W xF (ev c me)) (own.map (·.2)) σ H Q := by
  obtain ⟨g, ρ, s, en, q, f⟩ := h
  refine ⟨g, ρ, s, en, q, f.bind.mono fun ds s1 g1 H1 t1 f1 J fd Dd hD => ?_⟩
  have wl : (own.map (·.2)) = own.map (·.2) := rfl
  generalize hvs : own.map (·.2) = vs at *
  have nlD : ¬ LiveAt g1 s1 Dd := fun z => by
    obtain ⟨xs, hx⟩ := t1.st.liveLt z
    rw [hD] at hx; cases hx
  have ngD : g1.G Dd = none := t1.st.gnone hD
  have enb := en.up t1.ext
  let K' : D → S → Gh → Hp → Prop := fun d _ g' H' => ∀ v, Rep W g' d v → Q v H'
  let fin : List D → S → R D := fun out s2 => .ok (.lst out) s2
  let go : List D → List D → S → R (List D) := lcGo (wipeE ρ vs) t (evC c mt) (ev c me)
  let Wf : Nat → Nat → Hp → Prop := fun i m H' => i ≤ ds.length ∧ m = ds.length - i ∧ ∃ g' s' acc accV, To W g1 H1 s1 g' H' s' ∧ H' Dd = some (.lst accV) ∧ g'.G Dd = none ∧ ¬ LiveAt g' s' Dd ∧ Reps W g' acc accV ∧
    Fin W x σ g1 H1 s1 K' ((go (ds.drop i) acc s').bind fin)
  have t0 : To W g1 H1 s1 g1 (upd H1 Dd (.lst [])) s1 := ⟨.refl, t1.st.side ngD nlD, fun a o h n => ⟨by rw [upd_ne (ne_of_none h hD)]; exact h, n⟩, fun _ _ _ _ h => h⟩
  refine ⟨Wf, ⟨ds.length, Nat.zero_le _, by simp, g1, s1, [], [], t0, upd_same, ngD, nlD, .nil, f1⟩, fun i m H' ⟨w1, w2, g', s', acc, accV, w3, w4, w5, w6, w7, w9⟩ => ?_⟩
  by_cases hlt : i < ds.length
  · refine .inr ⟨fd.go i g' H' s' w3.ext w3.st hlt, fun H'' => Wf (i + 1) (ds.length - (i + 1)) H'', fun H'' h => ⟨_, by omega, h⟩, fun v H2 hy => ?_⟩
    obtain ⟨d, hd⟩ : ∃ d, ds[i]? = some d := ⟨ds[i], by simp [hlt]⟩
    obtain ⟨g2, t2, rv⟩ := fd.yld i g' H' s' v H2 d w3.ext w3.st hd hy
    have hdrop : ds.drop i = d :: ds.drop (i + 1) := by
      obtain ⟨h1, h2⟩ := List.getElem?_eq_some_iff.mp hd
      rw [← h2]
      exact List.drop_eq_getElem_cons h1
    rw [hdrop] at w9
    obtain ⟨k1, k2⟩ := t2.keep Dd _ w4 w6
    have k3 := t2.fix Dd _ w4 w6 w5
    have f2 : Fin W x σ g1 H1 s1 K' ((match t.set d (wipeE ρ vs) with
      | none => R.bad
      | some ρ' => (evC c mt ρ' s').calm.bind fun k s1 => if k then (ev c me ρ' s1).calm.bind fun x s2 => if acc.length < line then go (ds.drop (i + 1)) (acc ++ [x]) s2 else .bad else go (ds.drop (i + 1)) acc s1).bind fin) := w9
    cases hset : t.set d (wipeE ρ vs) with
    | none => rw [hset] at f2; exact f2.elim
    | some ρ' =>
      simp only [hset] at f2
      rw [bind_assoc'] at f2
      have en1 := (enb.up w3.ext).up t2.ext
      refine tg_go t2.st.sub t (en1.wipe vs) rv hset fun σ2 en2 only => ⟨?_, ?_⟩
      · rw [wipe_only only ho, wipe_wipe]
      · refine (calmC en2 t2.st f2).mono fun k H3 ⟨g3, s3, t3, en3, f4⟩ => ?_
        obtain ⟨k4, k5⟩ := t3.keep Dd _ k1 k2
        have k6 := t3.fix Dd _ k1 k2 k3
        cases k with
        | false => exact ⟨by omega, rfl, g3, s3, acc, accV, (w3.trans t2).trans t3, k4, k6, k5, (w7.up t2.ext).up t3.ext, f4⟩
        | true =>
          have f5 : Fin W x σ g1 H1 s1 K' (((ev c me ρ' s3).calm.bind fun y s2 => if acc.length < line then go (ds.drop (i + 1)) (acc ++ [y]) s2 else .bad).bind fin) := f4
          rw [bind_assoc'] at f5
          refine (calmE en3 t3.st f5).mono fun y H4 ⟨dy, g4, s4, ry, t4, f6⟩ => ?_
          obtain ⟨k7, k8⟩ := t4.keep Dd _ k4 k5
          have k9 := t4.fix Dd _ k4 k5 k6
          by_cases hl : acc.length < line
          · rw [if_pos hl] at f6
            refine ⟨accV, k7, by rw [(w7.len), line_eq]; exact hl, by omega, rfl, g4, s4, acc ++ [dy], accV ++ [y], ?_, upd_same, k9, k8, (((w7.up t2.ext).up t3.ext).up t4.ext).app (.cons ry .nil), f6⟩
            have tt := ((w3.trans t2).trans t3).trans t4
            exact ⟨tt.ext, t4.st.side k9 k8, fun a o h n => by
              obtain ⟨z1, z2⟩ := tt.keep a o h n
              exact ⟨by rw [upd_ne (ne_of_none h hD)]; exact z1, z2⟩, tt.fix⟩
          · rw [if_neg hl] at f6
            exact f6.elim
  · refine .inl ⟨fd.stop i g' H' s' w3.ext w3.st (by omega), ?_⟩
    have hdrop : ds.drop i = [] := List.drop_eq_nil_of_le (by omega)
    rw [hdrop] at w9
    have f2 : ∀ g2 H2, To W g1 H1 s1 g2 H2 s' → ∀ v, Rep W g2 (.lst acc) v → Q v H2 := w9
    refine f2 (g'.new Dd (.lst accV)) H' ⟨w3.ext.trans (ext_new w5), w3.st.adopt w4 w5 w6, w3.keep, fun a o h n z => ?_⟩ _ (.lst new_at (w7.up (ext_new w5)))
    show upd g'.G Dd _ a = none
    rw [upd_ne (ne_of_none h hD)]
    exact w3.fix a o h n z
/-- what a comprehension's parts are -/
structure LcOk (X : Cx) (W : Wr) (x : XW) (c : Cxt) (N : List Str) (sc : Scope) (scope : Scope) (own : List (Str × Nat)) (elt tg iter : Expr) (ifs : List Expr) (me : E) (t : T) (mi : It) (mt : C) : Prop where
  blk : blkC N sc scope own = true
  it : PI X tg iter (RdI W x (evI c mi))
  own : ∀ i ∈ t.slots, i ∈ own.map (·.2)
  tg : ∀ X' x', Good X' W x' c N (relS scope sc) → (∀ y, X'.fn y = (scope.names.lookup y == some .cell)) → PG X' tg (tgV W.K t)
  ifs : ∀ X' x', Good X' W x' c N (relS scope sc) → PTs X' ifs (RdC W x' (evC c mt))
  elt : ∀ X' x', Good X' W x' c N (relS scope sc) → Ex X' W x' c elt me
  fold : ∀ u, foldedSetIterable iter X.env u = pure u
variable {scope : Scope} {own : List (Str × Nat)} {elt tg iter : Expr} {ifs : List Expr} {pos : Pos} {me : E} {t : T} {mi : It} {mt : C}
theorem ex_lc (G : Good X W x c N sc) (h : LcOk X W x c N sc scope own elt tg iter ifs me t mi mt) : Ex X W x c (.ListComp elt [⟨tg, iter, ifs, 0⟩] scope pos) (.lc (own.map (·.2)) me t mi mt) :=
  (pe_lc (own := own) G.calm G.nd h.it (blkOk_by (by rw [G.N, G.sc]; exact h.blk)) (fun s H C cl fp => h.tg _ _ (G.blk s H scope C cl fp) fun _ => rfl) (fun s H C cl fp => h.ifs _ _ (G.blk s H scope C cl fp)) (fun s H C cl fp => h.elt _ _ (G.blk s H scope C cl fp)) h.fold).imp fun σ H Q z => lc_read h.own z
end
end NM
end

section
set_option linter.all false
set_option maxHeartbeats 2000000
set_option autoImplicit false
/-! NM: statements, over the layer. -/
namespace NM
open PySem PyProof.Rows L2

def FinS (W : Wr) (x : XW) (g : Gh) (H : Hp) (s : S) (Dn : Ends) : O → Prop
  | .nx ρ s' => ∀ g' H' σ', To W g H s g' H' s' → EnvR W g' ρ σ' → Dn.nx σ' H'
  | .rt d s' => ∀ g' H' v, To W g H s g' H' s' → Rep W g' d v → Dn.rt v H'
  | .bk ρ s' => ∀ g' H' σ', To W g H s g' H' s' → EnvR W g' ρ σ' → Dn.bk σ' H'
  | .ct ρ s' => ∀ g' H' σ', To W g H s g' H' s' → EnvR W g' ρ σ' → Dn.ct σ' H'
  | .exn e s' => ∀ g' H' σ', To W g H s g' H' s' → x e s' g' σ' H'
  | .bad => False
def RdS (W : Wr) (x : XW) (m : NM.Env → S → O) : TS := fun Dn σ H => ∃ g ρ s, EnvR W g ρ σ ∧ SR W g H s ∧ FinS W x g H s Dn (m ρ s)
theorem _root_.L2.PS.imp {X : Cx} {st : Stmt} {t t' : TS} (h : PS X st t) (i : ∀ Dn σ H, t' Dn σ H → t Dn σ H) : PS X st t' := ⟨fun pins s σ H Dn I q => h.run pins s σ H Dn I (i Dn σ H q)⟩
theorem _root_.L2.PSs.imp {X : Cx} {st : List Stmt} {t t' : TS} (h : PSs X st t) (i : ∀ Dn σ H, t' Dn σ H → t Dn σ H) : PSs X st t' := ⟨fun pins s σ H Dn I q => h.run pins s σ H Dn I (i Dn σ H q)⟩
section
variable {W : Wr} {x : XW} {g : Gh} {H : Hp} {s : S} {Dn : Ends}
theorem FinS.up {g1 : Gh} {H1 : Hp} {s1 : S} {o : O} (t : To W g H s g1 H1 s1) (f : FinS W x g H s Dn o) : FinS W x g1 H1 s1 Dn o := by
  cases o with
  | nx ρ s' => exact fun g' H' σ' e => f g' H' σ' (t.trans e)
  | rt d s' => exact fun g' H' σ' e => f g' H' σ' (t.trans e)
  | bk ρ s' => exact fun g' H' σ' e => f g' H' σ' (t.trans e)
  | ct ρ s' => exact fun g' H' σ' e => f g' H' σ' (t.trans e)
  | exn d s' => exact fun g' H' σ' e => f g' H' σ' (t.trans e)
  | bad => exact f
/-- the expression's end within a statement -/
theorem FinS.out {α : Type} {σ : L2.St} {r : R α} {f : α → S → O} (h : FinS W x g H s Dn (r.out f)) : Fin W x σ g H s (fun a s1 g1 H1 => FinS W x g1 H1 s1 Dn (f a s1)) r := by
  cases r with
  | ok a s1 => exact fun g' H' t => FinS.up t h
  | exn e s1 => exact fun g' H' t => h g' H' σ t
  | bad => exact h
end
section
variable {X : Cx} {W : Wr} {x : XW} {c : Cxt} {N : List Str} {sc : Scope}
abbrev Sx (X : Cx) (W : Wr) (x : XW) (c : Cxt) (st : Stmt) (m : NM.St) : Prop := PS X st (RdS W x (ex c m))
abbrev Bx (X : Cx) (W : Wr) (x : XW) (c : Cxt) (st : List Stmt) (m : Ss) : Prop := PSs X st (RdS W x (exs c m))
variable {g : Gh} {H : Hp} {s : S} {Dn : Ends} {ρ : NM.Env} {σ : L2.St}
/-- behind an expression -/
structure AftS (W : Wr) (x : XW) (g0 : Gh) (H0 : Hp) (s0 : S) (Dn : Ends) (ρ : NM.Env) (σ : L2.St) (H1 : Hp) (o : O) (g1 : Gh) (s1 : S) : Prop where
  to : To W g0 H0 s0 g1 H1 s1
  env : EnvR W g1 ρ σ
  fin : FinS W x g1 H1 s1 Dn o
theorem outE {m : NM.Env → S → R D} {f : D → S → O} (e : EnvR W g ρ σ) (r : SR W g H s) (h : FinS W x g H s Dn ((m ρ s).out f)) :
    RdE W x m σ H fun v H1 => ∃ d g1 s1, Rep W g1 d v ∧ AftS W x g H s Dn ρ σ H1 (f d s1) g1 s1 :=
  ⟨g, ρ, s, e, r, h.out.mono fun d s1 g1 H1 t f1 v q => ⟨d, g1, s1, q, t, e.up t.ext, f1⟩⟩
theorem outC {m : NM.Env → S → R Bool} {f : Bool → S → O} (e : EnvR W g ρ σ) (r : SR W g H s) (h : FinS W x g H s Dn ((m ρ s).out f)) :
    RdC W x m σ H fun k H1 => ∃ g1 s1, AftS W x g H s Dn ρ σ H1 (f k s1) g1 s1 :=
  ⟨g, ρ, s, e, r, h.out.mono fun d s1 g1 H1 t f1 => ⟨g1, s1, t, e.up t.ext, f1⟩⟩
theorem outA {m : NM.Env → S → R (List D)} {f : List D → S → O} (e : EnvR W g ρ σ) (r : SR W g H s) (h : FinS W x g H s Dn ((m ρ s).out f)) :
    RdA W x m σ H fun vs H1 => ∃ ds g1 s1, Reps W g1 ds vs ∧ AftS W x g H s Dn ρ σ H1 (f ds s1) g1 s1 :=
  ⟨g, ρ, s, e, r, h.out.mono fun d s1 g1 H1 t f1 v q => ⟨d, g1, s1, q, t, e.up t.ext, f1⟩⟩

variable {e tg o i : Expr} {me mo mi : E} {t : T} {pos p2 : Pos}
theorem bx_nil : Bx X W x c [] .nil := pss_nil.imp fun Dn σ H ⟨g, ρ, s, en, q, f⟩ => f g H σ (.refl q) en
theorem bx_cons {st : Stmt} {rest : List Stmt} {ms : NM.St} {mr : Ss} (h : Sx X W x c st ms) (hr : Bx X W x c rest mr) : Bx X W x c (st :: rest) (.cons ms mr) :=
  (pss_cons h hr).imp fun Dn σ H ⟨g, ρ, s, en, q, f⟩ => by
    refine ⟨g, ρ, s, en, q, ?_⟩
    have f' : FinS W x g H s Dn ((ex c ms ρ s).bind fun ρ' s' => exs c mr ρ' s') := f
    cases hm : ex c ms ρ s with
    | nx ρ' s' => rw [hm] at f'; exact fun g' H' σ' t en' => ⟨g', ρ', s', en', t.st, FinS.up t f'⟩
    | rt d s' => rw [hm] at f'; exact f'
    | bk ρ' s' => rw [hm] at f'; exact f'
    | ct ρ' s' => rw [hm] at f'; exact f'
    | exn d s' => rw [hm] at f'; exact f'
    | bad => rw [hm] at f'; exact f'
theorem each_one (h : noStar tg = true) : (assignEach [tg] X.env).map (·.2) = [assign tg X.env] := by
  cases tg <;> first | rfl | cases h
theorem sx_asg (ns : noStar tg = true) (he : Ex X W x c e me) (hg : PG X tg (tgV W.K t)) (hs : swapsWithSole [tg] e pos.line X.env = pure false) (hw : swappedStores [tg] e X.env = pure none) : Sx X W x c (.Assign [tg] e pos) (.asg t me) :=
  (ps_asg he hg hs hw (each_one ns)).imp fun Dn σ H ⟨g, ρ, s, en, q, f⟩ => by
    refine (outE en q f).mono fun v H1 ⟨d1, g1, s1, r1, a1⟩ => ?_
    have f1 := a1.fin
    cases h : t.set d1 ρ with
    | none => rw [h] at f1; exact f1.elim
    | some ρ' =>
      rw [h] at f1
      exact tg_go a1.to.st.sub t a1.env r1 h fun σ' en' _ => f1 g1 H1 σ' (.refl a1.to.st) en'
theorem sx_setLc (G : Good X W x c N sc) {scope : Scope} {own : List (Str × Nat)} {elt itg iter : Expr} {ifs : List Expr} {j : Nat} {y : Str} {py : Pos} {mi : It} {mt : C} {lt : T} (h : LcOk X W x c N sc scope own elt itg iter ifs me lt mi mt) (hy : N[j]? = some y) (hyl : sc.names.lookup y = some .local)
    (hsw : swapsWith (.ListComp elt [⟨itg, iter, ifs, 0⟩] scope pos) (some (.Name y py)) p2.line X.env = pure true) : Sx X W x c (.Assign [.Name y py] (.ListComp elt [⟨itg, iter, ifs, 0⟩] scope pos) p2) (.asg (.v j) (.lc (own.map (·.2)) me lt mi mt)) :=
  (ps_setLc (own := own) (i := j) G.calm G.nd (by rw [G.N]; exact hy) (by rw [G.sc]; exact hyl) hsw h.it (blkOk_by (by rw [G.N, G.sc]; exact h.blk)) (fun s H C cl fp => h.tg _ _ (G.blk s H scope C cl fp) fun _ => rfl) (fun s H C cl fp => h.ifs _ _ (G.blk s H scope C cl fp)) (fun s H C cl fp => h.elt _ _ (G.blk s H scope C cl fp)) h.fold).imp fun Dn σ H ⟨g, ρ, s, en, q, f⟩ => by
    refine lc_read h.own ((outE (m := ev c (.lc (own.map (·.2)) me lt mi mt)) en q f).mono fun v H1 ⟨d1, g1, s1, r1, a1⟩ => ?_)
    have f1 := a1.fin
    cases h : (T.v j).set d1 ρ with
    | none => rw [h] at f1; exact f1.elim
    | some ρ' =>
      rw [h] at f1
      exact tg_go (W := W) a1.to.st.sub (.v j) a1.env r1 h fun σ' en' _ => f1 g1 H1 σ' (.refl a1.to.st) en'
theorem sx_expr (he : Ex X W x c e me) (hs : swapsWith e none pos.line X.env = pure false) : Sx X W x c (.Expr e pos) (.expr me) :=
  (ps_expr he hs).imp fun Dn σ H ⟨g, ρ, s, en, q, f⟩ => by
    refine (outE en q f).mono fun v H1 ⟨d1, g1, s1, r1, a1⟩ => ?_
    exact a1.fin g1 H1 σ (.refl a1.to.st) a1.env
theorem sx_ret (he : Ex X W x c e me) : Sx X W x c (.Return (some e) pos) (.ret me) :=
  (ps_ret he).imp fun Dn σ H ⟨g, ρ, s, en, q, f⟩ => by
    refine (outE en q f).mono fun v H1 ⟨d1, g1, s1, r1, a1⟩ => ?_
    exact a1.fin g1 H1 v (.refl a1.to.st) r1
theorem sx_retN : Sx X W x c (.Return none pos) .retN :=
  ps_retN.imp fun Dn σ H ⟨g, ρ, s, en, q, f⟩ => f g H .non (.refl q) .non
theorem sx_pass : Sx X W x c (.Pass pos) .pass := ps_pass.imp fun Dn σ H ⟨g, ρ, s, en, q, f⟩ => f g H σ (.refl q) en
theorem sx_brk : Sx X W x c (.Break pos) .brk := ps_break.imp fun Dn σ H ⟨g, ρ, s, en, q, f⟩ => f g H σ (.refl q) en
theorem sx_cont : Sx X W x c (.Continue pos) .cont := ps_continue.imp fun Dn σ H ⟨g, ρ, s, en, q, f⟩ => f g H σ (.refl q) en
theorem sx_ite {t : Expr} {a b : List Stmt} {mt : C} {ma mb : Ss} (ht : Tx X W x c t mt) (ha : Bx X W x c a ma) (hb : Bx X W x c b mb) : Sx X W x c (.If t a b pos) (.ite mt ma mb) :=
  (ps_if ht ha hb).imp fun Dn σ H ⟨g, ρ, s, en, q, f⟩ => by
    refine (outC en q f).mono fun k H1 ⟨g1, s1, a1⟩ => ?_
    have f1 := a1.fin
    cases k with
    | true => exact ⟨g1, ρ, s1, a1.env, a1.to.st, f1⟩
    | false => exact ⟨g1, ρ, s1, a1.env, a1.to.st, f1⟩
theorem subS_some {s s' : S} {o i d : D} (h : subS s o i d = some s') : ∃ n j ds k, o = .ref n ∧ i = .int j ∧ s[n]? = some (.lst ds) ∧ ixN ds.length j = some k ∧ s' = s.set n (.lst (ds.set k d)) := by
  cases o <;> first | (cases h; done) | skip
  rename_i n
  cases i <;> first | (cases h; done) | skip
  rename_i j
  have h' : (match s[n]? with | some (.lst xs) => (ixN xs.length j).map fun k => s.set n (.lst (xs.set k d)) | _ => none) = some s' := h
  split at h'
  · rename_i xs hx
    cases hk : ixN xs.length j with
    | none => rw [hk] at h'; cases h'
    | some k =>
      rw [hk] at h'
      cases h'
      exact ⟨n, j, xs, k, rfl, rfl, hx, hk, rfl⟩
  · cases h'
/-- o[i] = e of a changing list -/
theorem sub_plain (h : plainIx i = true) (v : Value) : assign (.Subscript o i p2) X.env v = (do
    let ov ← holding [v] (eval o X.env)
    let iv ← holding [v, ov] (eval i X.env)
    standAt p2
    holding [v, ov, iv] (setItem ov iv v)
    release [v, ov, iv] []) := by
  cases i <;> first | rfl | cases h
theorem sx_sub (hp : plainIx i = true) (ho : Ex X W x c o mo) (hi : Ex X W x c i mi) (he : Ex X W x c e me) (hs : swapsWithSole [.Subscript o i p2] e pos.line X.env = pure false) (hw : swappedStores [.Subscript o i p2] e X.env = pure none) : Sx X W x c (.Assign [.Subscript o i p2] e pos) (.sub mo mi me) :=
  (ps_asg he (pg_sub ho hi set_list (fun v => sub_plain hp v)) hs hw).imp fun Dn σ H ⟨g, ρ, s, en, q, f⟩ => by
    refine (outE en q f).mono fun v H1 ⟨d1, g1, s1, r1, a1⟩ => ?_
    refine (outE a1.env a1.to.st a1.fin).mono fun u H2 ⟨d2, g2, s2, r2, a2⟩ => ?_
    refine (outE a2.env a2.to.st a2.fin).mono fun w H3 ⟨d3, g3, s3, r3, a3⟩ => ?_
    have f3 := a3.fin
    have r1' := (r1.up a2.to.ext).up a3.to.ext
    have r2' := r2.up a3.to.ext
    cases hsb : subS s3 d2 d3 d1 with
    | none => rw [hsb] at f3; exact f3.elim
    | some s4 =>
      rw [hsb] at f3
      obtain ⟨n, j, ds, k, rfl, rfl, hd, hk, rfl⟩ := subS_some hsb
      cases r3
      obtain ⟨a, hn, hra⟩ : ∃ a, g3.mu[n]? = some a ∧ u = .ref a := by
        cases r2' with
        | ref hn => exact ⟨_, hn, rfl⟩
      subst hra
      obtain ⟨a', h1, xs, h2, h3, h4⟩ := a3.to.st.mo n _ hd
      rw [hn] at h1
      cases h1
      have live : LiveAt g3 s3 a := ⟨n, _, hd, trivial, hn⟩
      have hnl : n < s3.length := (List.getElem?_eq_some_iff.mp hd).1
      have r4 : SR W g3 (upd H3 a (.lst (xs.set k v))) (s3.set n (.lst (ds.set k d1))) := by
        refine ⟨fun b u hb => ?_, by rw [List.length_set]; exact a3.to.st.len, fun m mo hm => ?_, fun m m' mo mo' b hm hm' l l' z z' => ?_⟩
        · rw [upd_ne fun z => by rw [z, h4] at hb; cases hb]
          exact a3.to.st.sub b u hb
        · by_cases hmn : n = m
          · subst hmn
            rw [List.getElem?_set_self hnl] at hm
            cases hm
            exact ⟨a, hn, xs.set k v, upd_same, h3.set k r1', h4⟩
          · rw [List.getElem?_set_ne hmn] at hm
            obtain ⟨b, z1, z2⟩ := a3.to.st.mo m mo hm
            refine ⟨b, z1, ?_⟩
            cases mo with
            | lst es =>
              obtain ⟨ys, z3, z4, z5⟩ := z2
              refine ⟨ys, ?_, z4, z5⟩
              rw [upd_ne fun z => hmn ?_]
              · exact z3
              · rw [z] at z1
                exact a3.to.st.ne n m _ _ a hd hm trivial trivial hn z1
            | frz d => exact z2
            | gone => trivial
        · have low : ∀ {m : Nat} {mo : MO}, (s3.set n (MO.lst (ds.set k d1)))[m]? = some mo → Live mo → ∃ mo', s3[m]? = some mo' ∧ Live mo' := fun {m mo} hm l => by
            by_cases hmn : n = m
            · subst hmn
              exact ⟨_, hd, trivial⟩
            · rw [List.getElem?_set_ne hmn] at hm
              exact ⟨mo, hm, l⟩
          obtain ⟨mo1, y1, y2⟩ := low hm l
          obtain ⟨mo2, y3, y4⟩ := low hm' l'
          exact a3.to.st.ne m m' _ _ b y1 y3 y2 y4 z z'
      refine ⟨a, xs, j, k, rfl, rfl, h2, by rw [h3.len]; exact hk, f3 g3 _ σ ⟨.refl, r4, fun b u hb nl => ?_, fun _ _ _ _ z => z⟩ a3.env⟩
      refine ⟨by rw [upd_ne fun z => nl (by rw [z]; exact live)]; exact hb, fun ⟨m, mo, hm, l, z⟩ => nl ?_⟩
      by_cases hmn : n = m
      · subst hmn
        exact ⟨n, _, hd, trivial, z⟩
      · rw [List.getElem?_set_ne hmn] at hm
        exact ⟨m, mo, hm, l, z⟩
end
end NM
end

section
set_option linter.all false
set_option maxHeartbeats 2000000
set_option autoImplicit false
/-! NM: loops as statements. -/
namespace NM
open PySem PyProof.Rows L2
section
variable {X : Cx} {W : Wr} {x : XW} {c : Cxt} {N : List Str} {sc : Scope}
variable {e tg iter : Expr} {t : T} {mi : It} {pos p2 : Pos} {body : List Stmt} {mb : Ss} {mt : C}
theorem sx_for (G : Good X W x c N sc) (hfs : ∀ u, foldedSetIterable iter X.env u = pure u) (hi : PI X tg iter (RdI W x (evI c mi))) (hg : PG X tg (tgV W.K t)) (hb : Bx X W x c body mb) : Sx X W x c (.For tg iter body [] pos) (.for t mi mb) :=
  (ps_for G.po G.calm hi hg hb hfs).imp fun Dn σ H ⟨g, ρ, s, en, q, f⟩ => by
    have f0 : FinS W x g H s Dn ((evI c mi ρ s).out fun ds s1 => forGo t (exs c mb) ds ρ s1) := f
    refine ⟨g, ρ, s, en, q, (FinS.out (σ := σ) f0).mono fun ds s1 g1 H1 t1 f1 J fd => ?_⟩
    let Wf : Nat → Nat → L2.St → Hp → Prop := fun i m σ' H' => i ≤ ds.length ∧ m = ds.length - i ∧ ∃ g' ρ' s', Ext g1 g' ∧ SR W g' H' s' ∧ EnvR W g' ρ' σ' ∧ FinS W x g' H' s' Dn (forGo t (exs c mb) (ds.drop i) ρ' s')
    refine ⟨Wf, ⟨ds.length, Nat.zero_le _, by simp, g1, ρ, s1, .refl, t1.st, en.up t1.ext, f1⟩, fun i m σ1 H2 ⟨w1, w2, g', ρ', s', w3, w4, w5, w6⟩ => ?_⟩
    by_cases hlt : i < ds.length
    · obtain ⟨d, hd⟩ : ∃ d, ds[i]? = some d := ⟨ds[i], by simp [hlt]⟩
      refine .inr ⟨fd.go i g' H2 s' w3 w4 hlt, fun σ2 H3 => Wf (i + 1) (ds.length - (i + 1)) σ2 H3, fun σ2 H3 h => ⟨_, by omega, h⟩, fun v H3 hy => ?_⟩
      obtain ⟨g2, t2, rv⟩ := fd.yld i g' H2 s' v H3 d w3 w4 hd hy
      have hdrop : ds.drop i = d :: ds.drop (i + 1) := by
        obtain ⟨h1, h2⟩ := List.getElem?_eq_some_iff.mp hd
        rw [← h2]
        exact List.drop_eq_getElem_cons h1
      rw [hdrop] at w6
      have f2 : FinS W x g2 H3 s' Dn (match t.set d ρ' with
        | none => .bad
        | some ρ' => match exs c mb ρ' s' with
          | .nx ρ2 s2 => forGo t (exs c mb) (ds.drop (i + 1)) ρ2 s2
          | .ct ρ2 s2 => forGo t (exs c mb) (ds.drop (i + 1)) ρ2 s2
          | .bk ρ2 s2 => .nx ρ2 s2
          | o => o) := FinS.up t2 w6
      cases hset : t.set d ρ' with
      | none => rw [hset] at f2; exact f2.elim
      | some ρ1 =>
        simp only [hset] at f2
        refine tg_go t2.st.sub t (w5.up t2.ext) rv hset fun σ2 en2 _ => ⟨g2, ρ1, s', en2, t2.st, ?_⟩
        have x2 := w3.trans t2.ext
        cases hb : exs c mb ρ1 s' with
        | nx ρ2 s2 => simp only [hb] at f2; exact fun g3 H4 σ3 t3 en3 => ⟨by omega, rfl, g3, ρ2, s2, x2.trans t3.ext, t3.st, en3, FinS.up t3 f2⟩
        | ct ρ2 s2 => simp only [hb] at f2; exact fun g3 H4 σ3 t3 en3 => ⟨by omega, rfl, g3, ρ2, s2, x2.trans t3.ext, t3.st, en3, FinS.up t3 f2⟩
        | bk ρ2 s2 => simp only [hb] at f2; exact f2
        | rt d2 s2 => simp only [hb] at f2; exact f2
        | exn d2 s2 => simp only [hb] at f2; exact f2
        | bad => simp only [hb] at f2; exact f2
    · refine .inl ⟨fd.stop i g' H2 s' w3 w4 (by omega), ?_⟩
      rw [List.drop_eq_nil_of_le (by omega)] at w6
      exact w6 g' H2 σ1 (.refl w4) w5
theorem sx_while (G : Good X W x c N sc) {test : Expr} (ht : Tx X W x c test mt) (hb : Bx X W x c body mb) : Sx X W x c (.While test body [] pos) (.while mt mb) :=
  (ps_while G.po ht hb).imp fun Dn σ H ⟨g, ρ, s, en, q, f⟩ => by
    let Wf : Nat → L2.St → Hp → Prop := fun m σ' H' => ∃ g' ρ' s', SR W g' H' s' ∧ EnvR W g' ρ' σ' ∧ FinS W x g' H' s' Dn (whGo (evC c mt) (exs c mb) m ρ' s')
    refine ⟨Wf, ⟨c.fuel, g, ρ, s, q, en, f⟩, fun m σ1 H1 ⟨g', ρ', s', w1, w2, w3⟩ => ?_⟩
    cases m with
    | zero => exact w3.elim
    | succ m =>
      have f1 : FinS W x g' H1 s' Dn ((evC c mt ρ' s').out fun k s1 => if k then match exs c mb ρ' s1 with
        | .nx ρ2 s2 => whGo (evC c mt) (exs c mb) m ρ2 s2
        | .ct ρ2 s2 => whGo (evC c mt) (exs c mb) m ρ2 s2
        | .bk ρ2 s2 => .nx ρ2 s2
        | o => o
        else .nx ρ' s1) := w3
      refine (outC w2 w1 f1).mono fun k H2 ⟨g1, s1, a1⟩ => ?_
      have f2 := a1.fin
      cases k with
      | false => exact f2 g1 H2 σ1 (.refl a1.to.st) a1.env
      | true =>
        refine ⟨fun σ2 H3 => Wf m σ2 H3, fun σ2 H3 h => ⟨m, by omega, h⟩, g1, ρ', s1, a1.env, a1.to.st, ?_⟩
        simp only [if_true] at f2
        cases hb : exs c mb ρ' s1 with
        | nx ρ2 s2 => simp only [hb] at f2; exact fun g3 H4 σ3 t3 en3 => ⟨g3, ρ2, s2, t3.st, en3, FinS.up t3 f2⟩
        | ct ρ2 s2 => simp only [hb] at f2; exact fun g3 H4 σ3 t3 en3 => ⟨g3, ρ2, s2, t3.st, en3, FinS.up t3 f2⟩
        | bk ρ2 s2 => simp only [hb] at f2; exact f2
        | rt d2 s2 => simp only [hb] at f2; exact f2
        | exn d2 s2 => simp only [hb] at f2; exact f2
        | bad => simp only [hb] at f2; exact f2
theorem sx_par2 (G : Good X W x c N sc) {i j : Nat} {a b : Expr} {ms : Es} {u v : Str} {px py pt : Pos} {kt k2 : Nat} {pt2 : Pos} (ha : Ax X W x c [a, b] ms) (hi : N[i]? = some u) (hj : N[j]? = some v) (hij : i ≠ j) (hx : sc.names.lookup u = some .local) (hy : sc.names.lookup v = some .local)
    (hw : swappedStores [.Tuple [.Name u px, .Name v py] kt pt] (.Tuple [a, b] k2 pt2) X.env = pure (some [u, v])) : Sx X W x c (.Assign [.Tuple [.Name u px, .Name v py] kt pt] (.Tuple [a, b] k2 pt2) pos) (.par [i, j] ms) :=
  (ps_par G.calm G.nd (by rw [G.N]; exact hi) (by rw [G.N]; exact hj) hij (by rw [G.sc]; exact hx) (by rw [G.sc]; exact hy) ha hw).imp fun Dn σ H ⟨g, ρ, s, en, q, f⟩ => by
    refine (outA en q f).mono fun vs H1 ⟨ds, g1, s1, r1, a1⟩ => ?_
    have f1 := a1.fin
    cases hs : setsE [i, j] ds ρ with
    | none => rw [hs] at f1; exact f1.elim
    | some ρ' =>
      rw [hs] at f1
      cases r1 with
      | nil => cases hs
      | cons r1 rr => cases rr with
        | nil =>
          simp only [setsE] at hs
          split at hs <;> cases hs
        | cons r2 rr => cases rr with
          | nil =>
            simp only [setsE] at hs
            split at hs
            · split at hs
              · cases hs
                exact ⟨_, _, rfl, f1 g1 H1 _ (.refl a1.to.st) ((a1.env.set i r1).set j r2)⟩
              · cases hs
            · cases hs
          | cons _ _ =>
            simp only [setsE] at hs
            split at hs
            · split at hs <;> cases hs
            · cases hs
theorem sx_par3 (G : Good X W x c N sc) {i j l : Nat} {a b d : Expr} {ms : Es} {u v w : Str} {px py pz pt : Pos} {kt k2 : Nat} {pt2 : Pos} (ha : Ax X W x c [a, b, d] ms) (hi : N[i]? = some u) (hj : N[j]? = some v) (hl : N[l]? = some w) (hij : i ≠ j) (hil : i ≠ l) (hjl : j ≠ l) (hx : sc.names.lookup u = some .local) (hy : sc.names.lookup v = some .local) (hz : sc.names.lookup w = some .local)
    (hw : swappedStores [.Tuple [.Name u px, .Name v py, .Name w pz] kt pt] (.Tuple [a, b, d] k2 pt2) X.env = pure (some [u, v, w])) : Sx X W x c (.Assign [.Tuple [.Name u px, .Name v py, .Name w pz] kt pt] (.Tuple [a, b, d] k2 pt2) pos) (.par [i, j, l] ms) :=
  (ps_par3 G.calm G.nd (by rw [G.N]; exact hi) (by rw [G.N]; exact hj) (by rw [G.N]; exact hl) hij hil hjl (by rw [G.sc]; exact hx) (by rw [G.sc]; exact hy) (by rw [G.sc]; exact hz) ha hw).imp fun Dn σ H ⟨g, ρ, s, en, q, f⟩ => by
    refine (outA en q f).mono fun vs H1 ⟨ds, g1, s1, r1, a1⟩ => ?_
    have f1 := a1.fin
    cases hs : setsE [i, j, l] ds ρ with
    | none => rw [hs] at f1; exact f1.elim
    | some ρ' =>
      rw [hs] at f1
      have key : ∃ d1 d2 d3, ds = [d1, d2, d3] ∧ ρ' = ((ρ.set i (some d1)).set j (some d2)).set l (some d3) := by
        rcases ds with _ | ⟨d1, _ | ⟨d2, _ | ⟨d3, _ | ⟨d4, ds⟩⟩⟩⟩ <;> simp only [setsE] at hs <;> (repeat' (split at hs)) <;> first | cases hs | skip
        all_goals exact ⟨_, _, _, rfl, rfl⟩
      obtain ⟨d1, d2, d3, rfl, rfl⟩ := key
      cases r1 with
      | cons r1 rr => cases rr with
        | cons r2 rr => cases rr with
          | cons r3 rr =>
            cases rr
            exact ⟨_, _, _, rfl, f1 g1 H1 _ (.refl a1.to.st) (((a1.env.set i r1).set j r2).set l r3)⟩
end
end NM
end

section
set_option linter.all false
set_option maxHeartbeats 2000000
set_option autoImplicit false
/-! NM: from the syntax of the text to the small language. -/
namespace NM
open PySem PyProof.Rows L2

def mkEnv (sc : Scope) : PySem.Env := { scope := sc, locals := 0, globals := 0, cells := [] }
def pureOf {α : Type} : Sem α → Option α
  | .pure b => some b
  | _ => none
theorem pureOf_eq {α : Type} {m : Sem α} {b : α} (h : pureOf m = some b) : m = pure b := by
  cases m <;> first | (cases h; rfl) | cases h
theorem swaps_env (e : Expr) (t : Option Expr) (l : Nat) (env : PySem.Env) : swapsWith e t l env = swapsWith e t l (mkEnv env.scope) := rfl
theorem sole_env (ts : List Expr) (e : Expr) (l : Nat) (env : PySem.Env) : swapsWithSole ts e l env = swapsWithSole ts e l (mkEnv env.scope) := by
  cases ts with
  | nil => rfl
  | cons t ts => cases ts <;> rfl
theorem stores_env (ts : List Expr) (e : Expr) (env : PySem.Env) : swappedStores ts e env = swappedStores ts e (mkEnv env.scope) := rfl

/-- the names of the text -/
structure CC where
  fns : List Str
  exs : List (Str × Option Str)
  cons : List Str
  cls : List Str
/-- the names of a def, the scope at hand -/
structure Lo where
  N : List Str
  sc : Scope
def bis : List Str := ["len", "int", "abs", "list", "max", "all"]
def slot (l : Lo) (x : Str) : Option Nat := match l.sc.names.lookup x with
  | some .local => l.N.findIdx? (· == x)
  | some .cell => l.N.findIdx? (· == x)
  | some .free => l.N.findIdx? (· == x)
  | _ => none
def isGl (l : Lo) (x : Str) : Bool := decide (l.sc.names.lookup x = some .globalImplicit)
def okName (x : Str) : Bool := decide (x ≠ "__name__") && !(x == ("__debug__" : Str)) && !(x == ("__classdict__" : Str))
def tySame : List Str := ["int", "bool", "str", "list", "tuple", "ValueError", "LookupError", "IndexError"]
def clsNames : List Expr → Option (List Str)
  | [] => some []
  | .Name k _ :: es => (clsNames es).map (k :: ·)
  | _ => none
def allSome {α : Type} : List (Option α) → Option (List α)
  | [] => some []
  | some a :: r => (allSome r).map (a :: ·)
  | none :: _ => none
/-- where a name may be stored -/
def stSlot (N : List Str) (sc : Scope) (x : Str) : Option Nat := match sc.names.lookup x with
  | some .local => N.findIdx? (· == x)
  | some .cell => N.findIdx? (· == x)
  | _ => none
mutual
def cT : Nat → List Str → Scope → Expr → Option T
  | 0, _, _, _ => none
  | n + 1, N, sc, e => match e with
    | .Name x _ => (stSlot N sc x).map .v
    | .Tuple es _ _ => if es.all noStar then (cTs n N sc es).map .tup else none
    | _ => none
def cTs : Nat → List Str → Scope → List Expr → Option (List T)
  | 0, _, _, _ => none
  | n + 1, _, _, [] => some []
  | n + 1, N, sc, e :: es => match cT n N sc e, cTs n N sc es with
    | some t, some ts => some (t :: ts)
    | _, _ => none
end
def ownOf (N : List Str) (scope : Scope) : List (Str × Nat) := scope.names.filterMap fun (x, k) => match k with
  | .local => (N.findIdx? (· == x)).map fun i => (x, i)
  | .cell => (N.findIdx? (· == x)).map fun i => (x, i)
  | _ => none

mutual
def cE (cc : CC) : Nat → Lo → Expr → Option E
  | 0, _, _ => none
  | n + 1, l, e => match e with
    | .Constant (.int i) _ _ => some (.k (.int i))
    | .Constant (.bool b) _ _ => some (.k (.bl b))
    | .Constant .none _ _ => some (.k .non)
    | .Constant (.str x) _ _ => some (.k (.str x))
    | .Name x _ => if okName x then (match slot l x with
        | some i => some (.v i)
        | none => if isGl l x && cc.cons.contains x then some (.g x) else none) else none
    | .BinOp a op b _ => match cE cc n l a, cE cc n l b with
      | some ma, some mb => some (.bin op ma mb)
      | _, _ => none
    | .UnaryOp .USub a _ => (cE cc n l a).map .neg
    | .UnaryOp .Not a _ => (cE cc n l a).map .not
    | .BoolOp op [a] _ => cE cc n l a
    | .BoolOp .And (a :: b :: r) p => match cE cc n l a, cE cc n l (.BoolOp .And (b :: r) p) with
      | some ma, some mb => some (.and ma mb)
      | _, _ => none
    | .BoolOp .Or (a :: b :: r) p => match cE cc n l a, cE cc n l (.BoolOp .Or (b :: r) p) with
      | some ma, some mb => some (.or ma mb)
      | _, _ => none
    | .IfExp t a b _ => match cC cc n l t, cE cc n l a, cE cc n l b with
      | some mt, some ma, some mb => some (.ite mt ma mb)
      | _, _, _ => none
    | .Compare a [op] [b] _ => if behindInMarks op b then none else match cE cc n l a, cE cc n l b with
      | some ma, some mb => some (.cmp op ma mb)
      | _, _ => none
    | .Tuple es _ _ => (cEs cc n l es).map .tup
    | .List es _ => (cEs cc n l es).map .lst
    | .Subscript a (.Slice lo hi none _) _ => match cE cc n l a, cO cc n l lo, cO cc n l hi with
      | some ma, some ml, some mh => some (.slc ma ml mh)
      | _, _, _ => none
    | .Subscript a i _ => if plainIx i then match cE cc n l a, cE cc n l i with
      | some ma, some mi => some (.idx ma mi)
      | _, _ => none else none
    | .Call (.Name f _) (a :: es) [] _ => if isGl l f && okName f && (a :: es).all noStar then
        if f = "isinstance" then match es with
          | [.Name k _] => if isGl l k && okName k && cc.cls.contains k then (cE cc n l a).map fun m => .isi m [k] else none
          | _ => none
        else if bis.contains f then (cEs cc n l (a :: es)).map (.bi f)
        else if cc.fns.contains f then (cEs cc n l (a :: es)).map (.call f)
        else match es, cc.exs.lookup f with
          | [], some (some _) => (cE cc n l a).map (.new f)
          | _, _ => none
      else none
    | .Call (.Name f _) [] [⟨some p, a, _⟩] _ => if isGl l f && okName f && noStar a && decide (cc.exs.lookup f = some (some p)) then (cE cc n l a).map (.new f) else none
    | .Call (.Name f _) [] [] _ => if isGl l f && okName f then (if cc.fns.contains f then some (.call f .nil) else if decide (cc.exs.lookup f = some none) then some (.new0 f) else none) else none
    | .Attribute a f _ => if plainA a then (cE cc n l a).map fun m => .attr m f else none
    | .ListComp elt [⟨tg, iter, ifs, 0⟩] scope _ => (cLc cc n l elt tg iter ifs scope)
    | _ => none
def cLc (cc : CC) : Nat → Lo → Expr → Expr → Expr → List Expr → Scope → Option E
  | 0, _, _, _, _, _, _ => none
  | n + 1, l, elt, tg, iter, ifs, scope =>
    let own := ownOf l.N scope
    let l' : Lo := ⟨l.N, relS scope l.sc⟩
    match cI cc n l tg iter, cT n l.N scope tg, (match ifs with | [] => some C.yes | [t] => cC cc n l' t | _ => none), cE cc n l' elt with
    | some mi, some t, some mt, some me => if blkC l.N l.sc scope own && t.slots.all (fun i => (own.map (·.2)).contains i) then some (.lc (own.map (·.2)) me t mi mt) else none
    | _, _, _, _ => none
def cO (cc : CC) : Nat → Lo → Option Expr → Option E
  | 0, _, _ => none
  | n + 1, _, none => some .no
  | n + 1, l, some e => match cE cc n l e with
    | some m => if isNo m then none else some m
    | none => none
def cEs (cc : CC) : Nat → Lo → List Expr → Option Es
  | 0, _, _ => none
  | n + 1, _, [] => some .nil
  | n + 1, l, e :: es => if noStar e then match cE cc n l e, cEs cc n l es with
    | some m, some ms => some (.cons m ms)
    | _, _ => none else none
def cC (cc : CC) : Nat → Lo → Expr → Option C
  | 0, _, _ => none
  | n + 1, l, e => match e with
    | .BoolOp op [a] _ => cC cc n l a
    | .BoolOp .And (a :: b :: r) p => match cC cc n l a, cC cc n l (.BoolOp .And (b :: r) p) with
      | some ma, some mb => some (.and ma mb)
      | _, _ => none
    | .BoolOp .Or (a :: b :: r) p => match cC cc n l a, cC cc n l (.BoolOp .Or (b :: r) p) with
      | some ma, some mb => some (.or ma mb)
      | _, _ => none
    | .UnaryOp .Not a _ => (cC cc n l a).map .not
    | .Compare a [op] [b] _ => if behindInMarks op b then none else match cE cc n l a, cE cc n l b with
      | some ma, some mb => some (.cmp op ma mb)
      | _, _ => none
    | .Compare a [o1, o2] [b, d] _ => if lastMarks [o1, o2] [b, d] then none else match cE cc n l a, cE cc n l b, cE cc n l d with
      | some ma, some mb, some md => some (.cmp2 o1 o2 ma mb md)
      | _, _, _ => none
    | e => if plainT e then (cE cc n l e).map .val else none
def cI (cc : CC) : Nat → Lo → Expr → Expr → Option It
  | 0, _, _, _ => none
  | n + 1, l, tg, e => match e with
    | .Call (.Name f _) [a] [] _ => if noStar a && isGl l f && decide (f = "range") then (cE cc n l a).map .rng1
      else if noStar a && isGl l f && decide (f = "enumerate") then match tg with
        | .Tuple _ _ _ => (cE cc n l a).map .enu
        | _ => none
      else (cE cc n l e).map .seq
    | .Call (.Name f _) [a, b] [] _ => if noStar a && noStar b && isGl l f && decide (f = "range") then (match cE cc n l a, cE cc n l b with
        | some ma, some mb => some (.rng2 ma mb)
        | _, _ => none)
      else if noStar a && noStar b && isGl l f && decide (f = "zip") then match tg with
        | .Tuple _ _ _ => (match cE cc n l a, cE cc n l b with
          | some ma, some mb => some (.zip ma mb)
          | _, _ => none)
        | _ => none
      else (cE cc n l e).map .seq
    | .Set _ _ _ => none
    | e => (cE cc n l e).map .seq
end

def swapNone (sc : Scope) (tg e : Expr) (l : Nat) : Bool := decide (pureOf (swapsWithSole [tg] e l (mkEnv sc)) = some false) && (match pureOf (swappedStores [tg] e (mkEnv sc)) with
  | some none => true
  | _ => false)
mutual
/-- a statement; rf: the displays that a return hands out are kept as changing lists -/
def cS (cc : CC) (rf : Bool) : Nat → Lo → Stmt → Option NM.St
  | 0, _, _ => none
  | n + 1, l, st => match st with
    | .Assign [.Name y py] (.ListComp elt [⟨itg, iter, ifs, 0⟩] scope cp) p =>
      match pureOf (swapsWith (.ListComp elt [⟨itg, iter, ifs, 0⟩] scope cp) (some (.Name y py)) p.line (mkEnv l.sc)) with
      | some true => match stSlot l.N l.sc y, cLc cc n l elt itg iter ifs scope with
        | some j, some m => if l.sc.names.lookup y = some .local then some (.asg (.v j) m) else none
        | _, _ => none
      | some false => if swapNone l.sc (.Name y py) (.ListComp elt [⟨itg, iter, ifs, 0⟩] scope cp) p.line then match stSlot l.N l.sc y, cLc cc n l elt itg iter ifs scope with
        | some j, some m => some (.asg (.v j) m)
        | _, _ => none else none
      | none => none
    | .Assign [.Subscript o i p2] e p => if plainIx i && swapNone l.sc (.Subscript o i p2) e p.line then match cE cc n l o, cE cc n l i, cE cc n l e with
      | some mo, some mi, some me => some (.sub mo mi me)
      | _, _, _ => none else none
    | .Assign [.Tuple ts tk tp] (.Tuple es ek ep) p => match pureOf (swappedStores [.Tuple ts tk tp] (.Tuple es ek ep) (mkEnv l.sc)) with
      | some (some _) => match ts, es, cEs cc n l es with
        | [.Name u pu, .Name v pv], [a, b], some ms => match stSlot l.N l.sc u, stSlot l.N l.sc v with
          | some i, some j => if decide (i ≠ j) && decide (l.sc.names.lookup u = some .local) && decide (l.sc.names.lookup v = some .local) && decide (pureOf (swappedStores [.Tuple [.Name u pu, .Name v pv] tk tp] (.Tuple [a, b] ek ep) (mkEnv l.sc)) = some (some [u, v])) then some (.par [i, j] ms) else none
          | _, _ => none
        | [.Name u pu, .Name v pv, .Name w pw], [a, b, d], some ms => match stSlot l.N l.sc u, stSlot l.N l.sc v, stSlot l.N l.sc w with
          | some i, some j, some k => if decide (i ≠ j) && decide (i ≠ k) && decide (j ≠ k) && decide (l.sc.names.lookup u = some .local) && decide (l.sc.names.lookup v = some .local) && decide (l.sc.names.lookup w = some .local) && decide (pureOf (swappedStores [.Tuple [.Name u pu, .Name v pv, .Name w pw] tk tp] (.Tuple [a, b, d] ek ep) (mkEnv l.sc)) = some (some [u, v, w])) then some (.par [i, j, k] ms) else none
          | _, _, _ => none
        | _, _, _ => none
      | some none => if swapNone l.sc (.Tuple ts tk tp) (.Tuple es ek ep) p.line then match cT n l.N l.sc (.Tuple ts tk tp), cEs cc n l es with
        | some t, some ms => some (.asg t (.tup ms))
        | _, _ => none else none
      | none => none
    | .Assign [tg] e p => if swapNone l.sc tg e p.line && noStar tg then match cT n l.N l.sc tg, cE cc n l e with
      | some t, some m => some (.asg t m)
      | _, _ => none else none
    | .Expr e p => if decide (pureOf (swapsWith e none p.line (mkEnv l.sc)) = some false) then (cE cc n l e).map .expr else none
    | .Return none _ => some .retN
    | .Return (some (.List es lp)) _ => if rf then (cEs cc n l es).map fun ms => .ret (.mlst ms) else (cEs cc n l es).map fun ms => .ret (.lst ms)
    | .Return (some e) _ => (cE cc n l e).map .ret
    | .If t a b _ => match cC cc n l t, cSs cc rf n l a, cSs cc rf n l b with
      | some mt, some ma, some mb => some (.ite mt ma mb)
      | _, _, _ => none
    | .For tg iter body [] _ => match cI cc n l tg iter, cT n l.N l.sc tg, cSs cc rf n l body with
      | some mi, some t, some mb => some (.for t mi mb)
      | _, _, _ => none
    | .While t body [] _ => match cC cc n l t, cSs cc rf n l body with
      | some mt, some mb => some (.while mt mb)
      | _, _ => none
    | .Break _ => some .brk
    | .Continue _ => some .cont
    | .Pass _ => some .pass
    | _ => none
def cSs (cc : CC) (rf : Bool) : Nat → Lo → List Stmt → Option Ss
  | 0, _, _ => none
  | n + 1, _, [] => some .nil
  | n + 1, l, st :: r => match cS cc rf n l st, cSs cc rf n l r with
    | some m, some ms => some (.cons m ms)
    | _, _ => none
end
/-- the names of comprehensions within, of their own -/
def addN (N : List Str) (x : Str) : List Str := if N.contains x then N else N ++ [x]
end NM
end

section
set_option linter.all false
set_option maxHeartbeats 4000000
set_option autoImplicit false
/-! NM: what is compiled means what the text means. -/
namespace NM
open PySem PyProof.Rows L2

theorem find_slot {N : List Str} {x : Str} {i : Nat} (h : N.findIdx? (· == x) = some i) : N[i]? = some x := by
  obtain ⟨h1, h2⟩ := List.findIdx?_eq_some_iff_getElem.mp h
  have h3 : N[i] = x := by simpa using h2.1
  rw [← h3]
  simp [h1]
theorem slot_ok {l : Lo} {x : Str} {i : Nat} (h : slot l x = some i) : l.N[i]? = some x ∧ Vis l.sc x := by
  unfold slot at h
  split at h
  · rename_i e; exact ⟨find_slot h, .inl e⟩
  · rename_i e; exact ⟨find_slot h, .inr (.inl e)⟩
  · rename_i e; exact ⟨find_slot h, .inr (.inr e)⟩
  · cases h
theorem stSlot_ok {N : List Str} {sc : Scope} {x : Str} {i : Nat} (h : stSlot N sc x = some i) : N[i]? = some x ∧ Loc sc x := by
  unfold stSlot at h
  split at h
  · rename_i e; exact ⟨find_slot h, .inl e⟩
  · rename_i e; exact ⟨find_slot h, .inr e⟩
  · cases h
theorem okName_ok {x : Str} (h : okName x = true) : x ≠ "__name__" ∧ (x == ("__debug__" : Str)) = false ∧ (x == ("__classdict__" : Str)) = false := by
  unfold okName at h
  simp only [Bool.and_eq_true, decide_eq_true_eq, Bool.not_eq_true'] at h
  exact ⟨h.1.1, h.1.2, h.2⟩
/-- what the names of the text must be -/
structure CcOk (cc : CC) (W : Wr) (c : Cxt) : Prop where
  cls : ∀ k, cc.cls.contains k = true → (∃ q, cv W k = some q) ∧ (W.ty k = none ∨ k ∈ tySame)
  sub : ∀ t k b, c.sub t k = some b → ∃ q, cv W t = some q
  exs : ∀ f p, cc.exs.lookup f = some p → c.par f = some p
section
variable {X : Cx} {W : Wr} {x : XW} {c : Cxt} {N : List Str} {sc : Scope}
/-- stores in the targets of a scope -/
structure StoreOk (X : Cx) (N : List Str) (sc : Scope) : Prop where
  N : X.N = N
  nd : X.N.Nodup
  loc : ∀ y, sc.names.lookup y = some .local → X.env.scope.names.lookup y = some .local
  cell : ∀ y, sc.names.lookup y = some .cell → X.env.scope.names.lookup y = some .cell ∧ X.fn y = true
  calm : X.calm = true
theorem pg_slot (O : StoreOk X N sc) {y : Str} {i : Nat} {p : Pos} (h : stSlot N sc y = some i) : PG X (.Name y p) (gName i) := by
  obtain ⟨h1, h2⟩ := stSlot_ok h
  rcases h2 with h2 | h2
  · exact pg_name O.nd (by rw [O.N]; exact h1) (.inl (O.loc y h2)) (.inr (O.loc y h2))
  · exact pg_name O.nd (by rw [O.N]; exact h1) (.inr (O.cell y h2).1) (.inl (O.cell y h2).2)
theorem noStars_find {es : List Expr} {env : PySem.Env} (h : es.all noStar = true) : (assignEach es env).findIdx? (·.1) = none ∧ (assignEach es env).length = es.length := by
  induction es with
  | nil => exact ⟨rfl, rfl⟩
  | cons e es ih =>
    simp only [List.all_cons, Bool.and_eq_true] at h
    obtain ⟨h1, h2⟩ := ih h.2
    have e1 : assignEach (e :: es) env = (false, assign e env) :: assignEach es env := by
      cases e <;> first | rfl | cases h.1
    rw [e1]
    refine ⟨?_, by simp [h2]⟩
    rw [List.findIdx?_cons]
    simp [h1]
theorem each_cons {e : Expr} {es : List Expr} {env : PySem.Env} (h : noStar e = true) : (assignEach (e :: es) env).map (·.2) = assign e env :: (assignEach es env).map (·.2) := by
  cases e <;> first | rfl | cases h
theorem cT_ok (O : StoreOk X N sc) : ∀ n, (∀ (e : Expr) (t : T), cT n N sc e = some t → PG X e (tgV X.K t)) ∧ (∀ (es : List Expr) (ts : List T), es.all noStar = true → cTs n N sc es = some ts → PGs X es (tgVs X.K ts) ∧ ts.length = es.length)
  | 0 => by
    refine ⟨fun e t h => ?_, fun es ts _ h => ?_⟩
    · unfold cT at h
      cases h
    · unfold cTs at h
      cases h
  | n + 1 => by
    obtain ⟨ih1, ih2⟩ := cT_ok O n
    refine ⟨fun e t h => ?_, fun es ts hs h => ?_⟩
    · simp only [cT] at h
      split at h
      · rename_i y p
        cases hy : stSlot N sc y with
        | none => rw [hy] at h; cases h
        | some i =>
          rw [hy] at h
          cases h
          exact pg_slot O hy
      · rename_i es k p
        split at h
        · rename_i hs
          cases hts : cTs n N sc es with
          | none => rw [hts] at h; cases h
          | some ts =>
            rw [hts] at h
            cases h
            obtain ⟨h1, h2⟩ := ih2 es ts hs hts
            obtain ⟨h3, h4⟩ := noStars_find (env := X.env) hs
            exact pg_tup O.calm h1 (by rw [h4, h2]) h3
        · cases h
      · cases h
    · cases es with
      | nil => cases h; exact ⟨pgs_nil, rfl⟩
      | cons e es =>
        simp only [List.all_cons, Bool.and_eq_true] at hs
        have h' : (match cT n N sc e, cTs n N sc es with | some t, some ts => some (t :: ts) | _, _ => none) = some ts := h
        cases h1 : cT n N sc e with
        | none => rw [h1] at h'; cases h'
        | some t =>
          cases h2 : cTs n N sc es with
          | none => rw [h1, h2] at h'; cases h'
          | some ts' =>
            rw [h1, h2] at h'
            cases h'
            obtain ⟨h3, h4⟩ := ih2 es ts' hs.2 h2
            exact ⟨pgs_cons (ih1 e t h1) h3 (each_cons hs.1), congrArg (· + 1) h4⟩
end
end NM
end

section
set_option linter.all false
set_option maxHeartbeats 8000000
set_option autoImplicit false
/-! NM: what is compiled means what the text means: expressions. -/
namespace NM
open PySem PyProof.Rows L2
structure Snd (cc : CC) (W : Wr) (c : Cxt) (n : Nat) : Prop where
  E : ∀ X x N sc, Good X W x c N sc → ∀ e m, cE cc n ⟨N, sc⟩ e = some m → Ex X W x c e m
  Lc : ∀ X x N sc, Good X W x c N sc → ∀ elt tg iter ifs scope m, cLc cc n ⟨N, sc⟩ elt tg iter ifs scope = some m → ∃ own me t mi mt, m = .lc (own.map (·.2)) me t mi mt ∧ LcOk X W x c N sc scope own elt tg iter ifs me t mi mt
  O : ∀ X x N sc, Good X W x c N sc → ∀ o m, cO cc n ⟨N, sc⟩ o = some m → PO X o (RdO W x c m)
  Es : ∀ X x N sc, Good X W x c N sc → ∀ es m, cEs cc n ⟨N, sc⟩ es = some m → Ax X W x c es m
  C : ∀ X x N sc, Good X W x c N sc → ∀ e m, cC cc n ⟨N, sc⟩ e = some m → Tx X W x c e m
  Bo : ∀ X x N sc, Good X W x c N sc → ∀ op es p m, cC cc n ⟨N, sc⟩ (.BoolOp op es p) = some m → Wx X W x c (.BoolOp op es p) m
  I : ∀ X x N sc, Good X W x c N sc → ∀ tg e m, cI cc n ⟨N, sc⟩ tg e = some m → PI X tg e (RdI W x (evI c m)) ∧ ∀ u, foldedSetIterable e X.env u = pure u
section
variable {W : Wr} {c : Cxt} {cc : CC}
theorem Good.vis {X : Cx} {x : XW} {N : List Str} {sc : Scope} (G : Good X W x c N sc) {y : Str} (h : Vis sc y) : Vis X.env.scope y := by rw [G.sc]; exact h
theorem isGl_ok {l : Lo} {x : Str} (h : isGl l x = true) : l.sc.names.lookup x = some .globalImplicit := of_decide_eq_true h
theorem es_stars {n : Nat} {l : Lo} : ∀ {es : List Expr} {m : Es}, cEs cc n l es = some m → es.all noStar = true := by
  induction n with
  | zero => intro es m h; simp [cEs] at h
  | succ n ih =>
    intro es m h
    cases es with
    | nil => rfl
    | cons e es =>
      simp only [cEs] at h
      split at h
      · rename_i hs
        split at h
        · rename_i h1 h2
          simp [hs, ih h2]
        · cases h
      · cases h
theorem snd_E {n : Nat} (K : CcOk cc W c) (ih : Snd cc W c n) : ∀ X x N sc, Good X W x c N sc → ∀ e m, cE cc (n + 1) ⟨N, sc⟩ e = some m → Ex X W x c e m := by
  intro X x N sc G e m h
  simp only [cE] at h
  split at h
  · cases h; exact ex_const pe_int fun _ => .int _
  · cases h; exact ex_const pe_bl fun _ => .bl _
  · cases h; exact ex_const pe_non fun _ => .non
  · cases h; exact ex_const pe_str fun _ => .str _
  · rename_i y p
    split at h
    · rename_i hn
      obtain ⟨n1, n2, n3⟩ := okName_ok hn
      split at h
      · rename_i i hi
        cases h
        obtain ⟨h1, h2⟩ := slot_ok hi
        exact ex_var (pe_var (by rw [G.N]; exact h1) (G.vis h2) n2 n3)
      · split at h
        · rename_i hg
          cases h
          simp only [Bool.and_eq_true] at hg
          cases hc : c.con y with
          | none => exact ⟨fun pins sh σ H Q I ⟨g, ρ, s, en, q, f⟩ => by
              have f' : Fin W x σ g H s _ (lift (c.con y) s) := f
              rw [hc] at f'; exact f'.elim⟩
          | some d =>
            obtain ⟨u, v, h1, h2, h3⟩ := G.con y d hc
            exact ex_glob (pe_glob (G.gl (isGl_ok hg.1)) h1 h2 n2) fun d' hd' g => by
              rw [hc] at hd'; cases hd'; exact h3 g
        · cases h
    · cases h
  · split at h
    · rename_i h1 h2; cases h; exact ex_bin G.K (ih.E X x N sc G _ _ h1) (ih.E X x N sc G _ _ h2)
    · cases h
  · rename_i a p
    cases ha : cE cc n ⟨N, sc⟩ a with
    | none => rw [ha] at h; cases h
    | some ma => rw [ha] at h; cases h; exact ex_neg (ih.E X x N sc G _ _ ha)
  · rename_i a p
    cases ha : cE cc n ⟨N, sc⟩ a with
    | none => rw [ha] at h; cases h
    | some ma => rw [ha] at h; cases h; exact ex_not (ih.E X x N sc G _ _ ha)
  · exact pe_one (ih.E X x N sc G _ _ h)
  · split at h
    · rename_i h1 h2; cases h; exact ex_and (ih.E X x N sc G _ _ h1) (ih.E X x N sc G _ _ h2)
    · cases h
  · split at h
    · rename_i h1 h2; cases h; exact ex_or (ih.E X x N sc G _ _ h1) (ih.E X x N sc G _ _ h2)
    · cases h
  · split at h
    · rename_i h1 h2 h3; cases h; exact ex_ite (ih.C X x N sc G _ _ h1) (ih.E X x N sc G _ _ h2) (ih.E X x N sc G _ _ h3)
    · cases h
  · split at h
    · cases h
    · rename_i hm
      split at h
      · rename_i h1 h2; cases h; exact ex_cmp G.K G.units (by simpa using hm) (ih.E X x N sc G _ _ h1) (ih.E X x N sc G _ _ h2)
      · cases h
  · rename_i es k p
    cases he : cEs cc n ⟨N, sc⟩ es with
    | none => rw [he] at h; cases h
    | some ms => rw [he] at h; cases h; exact ex_tup (ih.Es X x N sc G _ _ he)
  · rename_i es p
    cases he : cEs cc n ⟨N, sc⟩ es with
    | none => rw [he] at h; cases h
    | some ms => rw [he] at h; cases h; exact ex_lst (ih.Es X x N sc G _ _ he)
  · split at h
    · rename_i h1 h2 h3; cases h; exact ex_slc G (ih.E X x N sc G _ _ h1) (ih.O X x N sc G _ _ h2) (ih.O X x N sc G _ _ h3)
    · cases h
  · split at h
    · rename_i hp
      split at h
      · rename_i h1 h2; cases h; exact ex_idx G hp (ih.E X x N sc G _ _ h1) (ih.E X x N sc G _ _ h2)
      · cases h
    · cases h
  · rename_i f p a es p2
    split at h
    · rename_i hf
      simp only [Bool.and_eq_true] at hf
      obtain ⟨⟨f1, f2⟩, f3⟩ := hf
      obtain ⟨n1, n2, n3⟩ := okName_ok f2
      have gl := isGl_ok f1
      split at h
      · rename_i e
        subst e
        split at h
        · rename_i k kp
          split at h
          · rename_i hk
            simp only [Bool.and_eq_true] at hk
            obtain ⟨⟨k1, k2⟩, k3⟩ := hk
            obtain ⟨k4, k5, k6⟩ := okName_ok k2
            obtain ⟨k7, k8⟩ := K.cls _ k3
            cases ha : cE cc n ⟨N, sc⟩ a with
            | none => rw [ha] at h; cases h
            | some ma =>
              rw [ha] at h; cases h
              simp only [List.all_cons, Bool.and_eq_true] at f3
              exact ex_isi1 G f3.1 ⟨k7, isGl_ok k1, k4, k5, k8⟩ (fun t b hb => K.sub t _ b hb) gl (ih.E X x N sc G _ _ ha)
          · cases h
        · cases h
      · split at h
        · rename_i hb
          cases he : cEs cc n ⟨N, sc⟩ (a :: es) with
          | none => rw [he] at h; cases h
          | some ms => rw [he] at h; cases h; exact ex_bi G (by simpa [bis] using hb) gl f3 (ih.Es X x N sc G _ _ he)
        · split at h
          · cases he : cEs cc n ⟨N, sc⟩ (a :: es) with
            | none => rw [he] at h; cases h
            | some ms => rw [he] at h; cases h; exact ex_call G gl n2 f3 (ih.Es X x N sc G _ _ he)
          · split at h
            · cases ha : cE cc n ⟨N, sc⟩ a with
              | none => rw [ha] at h; cases h
              | some ma =>
                rw [ha] at h; cases h
                simp only [List.all_cons, Bool.and_eq_true] at f3
                exact ex_new G gl n2 f3.1 (ih.E X x N sc G _ _ ha)
            · cases h
    · cases h
  · rename_i f p pn a kp p2
    split at h
    · rename_i hf
      simp only [Bool.and_eq_true, decide_eq_true_eq] at hf
      obtain ⟨⟨⟨f1, f2⟩, f3⟩, f4⟩ := hf
      obtain ⟨n1, n2, n3⟩ := okName_ok f2
      cases ha : cE cc n ⟨N, sc⟩ a with
      | none => rw [ha] at h; cases h
      | some ma =>
        rw [ha] at h; cases h
        exact ex_newK G (isGl_ok f1) n2 (K.exs _ _ f4) (ih.E X x N sc G _ _ ha)
    · cases h
  · split at h
    · rename_i hf
      simp only [Bool.and_eq_true] at hf
      obtain ⟨n1, n2, n3⟩ := okName_ok hf.2
      split at h
      · cases h; exact ex_call0 G (isGl_ok hf.1) n2
      · split at h
        · cases h; exact ex_new0 G (isGl_ok hf.1) n2
        · cases h
    · cases h
  · split at h
    · rename_i hp
      rename_i a f p
      cases ha : cE cc n ⟨N, sc⟩ a with
      | none => rw [ha] at h; cases h
      | some ma => rw [ha] at h; cases h; exact ex_attr G hp (ih.E X x N sc G _ _ ha)
    · cases h
  · obtain ⟨own, me, t, mi, mt, rfl, hl⟩ := ih.Lc X x N sc G _ _ _ _ _ _ h
    exact ex_lc G hl
  · cases h
end
end NM
end

section
set_option linter.all false
set_option maxHeartbeats 8000000
set_option autoImplicit false
/-! NM: what is compiled means what the text means: lists, tests, walks, statements. -/
namespace NM
open PySem PyProof.Rows L2
section
variable {W : Wr} {c : Cxt} {cc : CC}
theorem snd_O {n : Nat} (ih : Snd cc W c n) : ∀ X x N sc, Good X W x c N sc → ∀ o m, cO cc (n + 1) ⟨N, sc⟩ o = some m → PO X o (RdO W x c m) := by
  intro X x N sc G o m h
  cases o with
  | none => cases h; exact po_no
  | some e =>
    simp only [cO] at h
    split at h
    · rename_i m' h1
      split at h
      · cases h
      · rename_i hn
        cases h
        exact po_e (by simpa using hn) (ih.E X x N sc G _ _ h1)
    · cases h
theorem snd_Es {n : Nat} (ih : Snd cc W c n) : ∀ X x N sc, Good X W x c N sc → ∀ es m, cEs cc (n + 1) ⟨N, sc⟩ es = some m → Ax X W x c es m := by
  intro X x N sc G es m h
  cases es with
  | nil => cases h; exact ax_nil
  | cons e es =>
    simp only [cEs] at h
    split at h
    · rename_i hs
      split at h
      · rename_i h1 h2
        cases h
        exact ax_cons hs (ih.E X x N sc G _ _ h1) (ih.Es X x N sc G _ _ h2)
      · cases h
    · cases h
theorem snd_Bo {n : Nat} (ih : Snd cc W c n) : ∀ X x N sc, Good X W x c N sc → ∀ op es p m, cC cc (n + 1) ⟨N, sc⟩ (.BoolOp op es p) = some m → Wx X W x c (.BoolOp op es p) m := by
  intro X x N sc G op es p m h
  simp only [cC] at h
  split at h
  · rename_i a p' e
    cases e
    cases op with
    | And => exact wx_and1 (ih.C X x N sc G _ _ h)
    | Or => exact wx_or1 (ih.C X x N sc G _ _ h)
  · rename_i a b r p' e
    cases e
    split at h
    · rename_i h1 h2; cases h; exact wx_and (ih.C X x N sc G _ _ h1) (ih.Bo X x N sc G _ _ _ _ h2)
    · cases h
  · rename_i a b r p' e
    cases e
    split at h
    · rename_i h1 h2; cases h; exact wx_or (ih.C X x N sc G _ _ h1) (ih.Bo X x N sc G _ _ _ _ h2)
    · cases h
  · rename_i e; cases e
  · rename_i e; cases e
  · rename_i e; cases e
  · split at h
    · rename_i hp; cases hp
    · cases h
theorem snd_C {n : Nat} (ih : Snd cc W c n) : ∀ X x N sc, Good X W x c N sc → ∀ e m, cC cc (n + 1) ⟨N, sc⟩ e = some m → Tx X W x c e m := by
  intro X x N sc G e m h
  by_cases hb : ∃ op es p, e = .BoolOp op es p
  · obtain ⟨op, es, p, rfl⟩ := hb
    exact (snd_Bo ih X x N sc G op es p m h).pt
  · simp only [cC] at h
    split at h
    · exact absurd ⟨_, _, _, rfl⟩ hb
    · exact absurd ⟨_, _, _, rfl⟩ hb
    · exact absurd ⟨_, _, _, rfl⟩ hb
    · rename_i a p
      cases ha : cC cc n ⟨N, sc⟩ a with
      | none => rw [ha] at h; cases h
      | some ma => rw [ha] at h; cases h; exact tx_not (ih.C X x N sc G _ _ ha)
    · split at h
      · cases h
      · rename_i hm
        split at h
        · rename_i h1 h2; cases h; exact tx_cmp G.K G.units (by simpa using hm) (ih.E X x N sc G _ _ h1) (ih.E X x N sc G _ _ h2)
        · cases h
    · split at h
      · cases h
      · rename_i hm
        split at h
        · rename_i h1 h2 h3; cases h; exact tx_cmp2 G.K G.units (by simpa using hm) (ih.E X x N sc G _ _ h1) (ih.E X x N sc G _ _ h2) (ih.E X x N sc G _ _ h3)
        · cases h
    · split at h
      · rename_i hp
        cases ha : cE cc n ⟨N, sc⟩ e with
        | none => rw [ha] at h; cases h
        | some ma => rw [ha] at h; cases h; exact tx_val G hp (ih.E X x N sc G _ _ ha)
      · cases h
theorem snd_I {n : Nat} (ih : Snd cc W c n) : ∀ X x N sc, Good X W x c N sc → ∀ tg e m, cI cc (n + 1) ⟨N, sc⟩ tg e = some m → PI X tg e (RdI W x (evI c m)) ∧ ∀ u, foldedSetIterable e X.env u = pure u := by
  intro X x N sc G tg e m h
  have seq : ∀ {e : Expr} {m : It}, (∀ u, foldedSetIterable e X.env u = pure u) → (cE cc n ⟨N, sc⟩ e).map It.seq = some m → PI X tg e (RdI W x (evI c m)) ∧ ∀ u, foldedSetIterable e X.env u = pure u := fun {e m} hf h => by
    cases ha : cE cc n ⟨N, sc⟩ e with
    | none => rw [ha] at h; cases h
    | some ma => rw [ha] at h; cases h; exact ⟨pi_seq G (ih.E X x N sc G _ _ ha), hf⟩
  simp only [cI] at h
  split at h
  · rename_i f p a p2
    split at h
    · rename_i hc
      simp only [Bool.and_eq_true, decide_eq_true_eq] at hc
      obtain ⟨⟨h1, h2⟩, rfl⟩ := hc
      cases ha : cE cc n ⟨N, sc⟩ a with
      | none => rw [ha] at h; cases h
      | some ma => rw [ha] at h; cases h; exact ⟨pi_rng1 G h1 (isGl_ok h2) (ih.E X x N sc G _ _ ha), fun _ => rfl⟩
    · split at h
      · rename_i hc
        simp only [Bool.and_eq_true, decide_eq_true_eq] at hc
        obtain ⟨⟨h1, h2⟩, rfl⟩ := hc
        split at h
        · cases ha : cE cc n ⟨N, sc⟩ a with
          | none => rw [ha] at h; cases h
          | some ma => rw [ha] at h; cases h; exact ⟨pi_enu G h1 (isGl_ok h2) (ih.E X x N sc G _ _ ha), fun _ => rfl⟩
        · cases h
      · exact seq (fun _ => rfl) h
  · rename_i f p a b p2
    split at h
    · rename_i hc
      simp only [Bool.and_eq_true, decide_eq_true_eq] at hc
      obtain ⟨⟨⟨h1, h1'⟩, h2⟩, rfl⟩ := hc
      split at h
      · rename_i h3 h4; cases h; exact ⟨pi_rng2 G h1 h1' (isGl_ok h2) (ih.E X x N sc G _ _ h3) (ih.E X x N sc G _ _ h4), fun _ => rfl⟩
      · cases h
    · split at h
      · rename_i hc
        simp only [Bool.and_eq_true, decide_eq_true_eq] at hc
        obtain ⟨⟨⟨h1, h1'⟩, h2⟩, rfl⟩ := hc
        split at h
        · split at h
          · rename_i h3 h4; cases h; exact ⟨pi_zip2 G h1 h1' (isGl_ok h2) (ih.E X x N sc G _ _ h3) (ih.E X x N sc G _ _ h4), fun _ => rfl⟩
          · cases h
        · cases h
      · exact seq (fun _ => rfl) h
  · cases h
  · rename_i hs
    refine seq (fun _ => ?_) h
    cases e <;> first | rfl | (exact absurd rfl (hs _ _ _))
theorem relS_local {scope sc : Scope} {y : Str} (h : scope.names.lookup y = some .local) : (relS scope sc).names.lookup y = some .local := lookup_relS_keep (by decide) h
theorem relS_cell {scope sc : Scope} {y : Str} (h : scope.names.lookup y = some .cell) : (relS scope sc).names.lookup y = some .cell := lookup_relS_keep (by decide) h
theorem snd_Lc {n : Nat} (ih : Snd cc W c n) : ∀ X x N sc, Good X W x c N sc → ∀ elt tg iter ifs scope m, cLc cc (n + 1) ⟨N, sc⟩ elt tg iter ifs scope = some m → ∃ own me t mi mt, m = .lc (own.map (·.2)) me t mi mt ∧ LcOk X W x c N sc scope own elt tg iter ifs me t mi mt := by
  intro X x N sc G elt tg iter ifs scope m h
  simp only [cLc] at h
  split at h
  · rename_i mi t mt me h1 h2 h3 h4
    split at h
    · rename_i hb
      simp only [Bool.and_eq_true] at hb
      cases h
      refine ⟨ownOf N scope, me, t, mi, mt, rfl, hb.1, (ih.I X x N sc G _ _ _ h1).1, fun i hi => ?_, fun X' x' G' hf => ?_, fun X' x' G' => ?_, fun X' x' G' => ih.E X' x' N _ G' _ _ h4, (ih.I X x N sc G _ _ _ h1).2⟩
      · have := List.all_eq_true.mp hb.2 i hi
        simpa using this
      · have O : StoreOk X' N scope := ⟨G'.N, G'.nd, fun y hy => by rw [G'.sc]; exact relS_local hy, fun y hy => ⟨by rw [G'.sc]; exact relS_cell hy, by rw [hf, hy]; rfl⟩, G'.calm⟩
        rw [G'.K]
        exact (cT_ok O n).1 tg t h2
      · cases ifs with
        | nil => cases h3; exact ⟨fun pins sh σ H Q I ⟨g, ρ, s, en, q, f⟩ => pts_nil.run pins sh σ H Q I (f g H (.refl q))⟩
        | cons t0 r => cases r with
          | nil => exact pts_one (ih.C X' x' N _ G' _ _ h3)
          | cons _ _ => cases h3
    · cases h
  · cases h
theorem snd (K : CcOk cc W c) : ∀ n, Snd cc W c n
  | 0 => ⟨fun _ _ _ _ _ e m h => by simp [cE] at h, fun _ _ _ _ _ _ _ _ _ _ m h => by simp [cLc] at h, fun _ _ _ _ _ o m h => by simp [cO] at h, fun _ _ _ _ _ es m h => by simp [cEs] at h, fun _ _ _ _ _ e m h => by simp [cC] at h,
    fun _ _ _ _ _ _ _ _ m h => by simp [cC] at h, fun _ _ _ _ _ _ e m h => by simp [cI] at h⟩
  | n + 1 =>
    let ih := snd K n
    ⟨snd_E K ih, snd_Lc ih, snd_O ih, snd_Es ih, snd_C ih, snd_Bo ih, snd_I ih⟩
end
end NM
end

section
set_option linter.all false
set_option maxHeartbeats 8000000
set_option autoImplicit false
/-! NM: what is compiled means what the text means: statements. -/
namespace NM
open PySem PyProof.Rows L2
section
variable {W : Wr} {c : Cxt} {cc : CC} {X : Cx} {x : XW} {N : List Str} {sc : Scope}
structure SndS (cc : CC) (W : Wr) (c : Cxt) (rf : Bool) (n : Nat) : Prop where
  S : ∀ X x N sc, Good X W x c N sc → StoreOk X N sc → ∀ st m, cS cc rf n ⟨N, sc⟩ st = some m → Sx X W x c st m
  Ss : ∀ X x N sc, Good X W x c N sc → StoreOk X N sc → ∀ st m, cSs cc rf n ⟨N, sc⟩ st = some m → Bx X W x c st m
theorem swapNone_ok (G : Good X W x c N sc) {tg e : Expr} {l : Nat} (h : swapNone sc tg e l = true) : swapsWithSole [tg] e l X.env = pure false ∧ swappedStores [tg] e X.env = pure none := by
  unfold swapNone at h
  simp only [Bool.and_eq_true, decide_eq_true_eq] at h
  obtain ⟨h1, h2⟩ := h
  refine ⟨by rw [sole_env, G.sc]; exact pureOf_eq h1, ?_⟩
  rw [stores_env, G.sc]
  split at h2
  · rename_i h3; exact pureOf_eq h3
  · cases h2
theorem sole_tuple {ts : List Expr} {k : Nat} {p : Pos} {e : Expr} {l : Nat} {env : PySem.Env} : swapsWithSole [.Tuple ts k p] e l env = swapsWithSole [.Tuple ts k p] e l env := rfl
theorem snd_S {rf : Bool} {n : Nat} (K : CcOk cc W c) (ih : SndS cc W c rf n) : ∀ X x N sc, Good X W x c N sc → StoreOk X N sc → ∀ st m, cS cc rf (n + 1) ⟨N, sc⟩ st = some m → Sx X W x c st m := by
  intro X x N sc G O st m h
  have se := snd (cc := cc) (W := W) (c := c) K n
  have pg : ∀ {tg : Expr} {t : T}, cT n N sc tg = some t → PG X tg (tgV W.K t) := fun {tg t} ht => by rw [G.K]; exact (cT_ok O n).1 tg t ht
  simp only [cS] at h
  split at h
  · rename_i y py elt itg iter ifs scope cp p
    split at h
    · rename_i hsw
      split at h
      · rename_i j m' h1 h2
        split at h
        · rename_i hl
          cases h
          obtain ⟨own, me, t, mi, mt, rfl, hlc⟩ := se.Lc X x N sc G _ _ _ _ _ _ h2
          exact sx_setLc G hlc (stSlot_ok h1).1 hl (by rw [swaps_env, G.sc]; exact pureOf_eq hsw)
        · cases h
      · cases h
    · rename_i hsw
      split at h
      · rename_i hsn
        split at h
        · rename_i j m' h1 h2
          cases h
          obtain ⟨own, me, t, mi, mt, rfl, hlc⟩ := se.Lc X x N sc G _ _ _ _ _ _ h2
          obtain ⟨z1, z2⟩ := swapNone_ok G hsn
          exact sx_asg (t := .v j) rfl (ex_lc G hlc) (pg_slot O h1) z1 z2
        · cases h
      · cases h
    · cases h
  · rename_i o i p2 e p hx
    split at h
    · rename_i hp
      simp only [Bool.and_eq_true] at hp
      split at h
      · rename_i h1 h2 h3
        cases h
        obtain ⟨z1, z2⟩ := swapNone_ok G hp.2
        exact sx_sub hp.1 (se.E X x N sc G _ _ h1) (se.E X x N sc G _ _ h2) (se.E X x N sc G _ _ h3) z1 z2
      · cases h
    · cases h
  · rename_i ts tk tp es ek ep p
    split at h
    · split at h
      · rename_i u pu v pv a b ms hms _
        split at h
        · rename_i i j hi hj
          split at h
          · rename_i hc
            simp only [Bool.and_eq_true, decide_eq_true_eq] at hc
            obtain ⟨⟨⟨c1, c2⟩, c3⟩, c4⟩ := hc
            cases h
            exact sx_par2 G (se.Es X x N sc G _ _ hms) (stSlot_ok hi).1 (stSlot_ok hj).1 c1 c2 c3 (by rw [stores_env, G.sc]; exact pureOf_eq c4)
          · cases h
        · cases h
      · rename_i u pu v pv w pw a b d ms hms _
        split at h
        · rename_i i j k hi hj hk
          split at h
          · rename_i hc
            simp only [Bool.and_eq_true, decide_eq_true_eq] at hc
            obtain ⟨⟨⟨⟨⟨⟨c1, c2⟩, c3⟩, c4⟩, c5⟩, c6⟩, c7⟩ := hc
            cases h
            exact sx_par3 G (se.Es X x N sc G _ _ hms) (stSlot_ok hi).1 (stSlot_ok hj).1 (stSlot_ok hk).1 c1 c2 c3 c4 c5 c6 (by rw [stores_env, G.sc]; exact pureOf_eq c7)
          · cases h
        · cases h
      · cases h
    · split at h
      · rename_i hsn
        split at h
        · rename_i t ms h1 h2
          cases h
          obtain ⟨z1, z2⟩ := swapNone_ok G hsn
          exact sx_asg rfl (ex_tup (se.Es X x N sc G _ _ h2)) (pg h1) z1 z2
        · cases h
      · cases h
    · cases h
  · rename_i tg e p h1 h2 h3
    split at h
    · rename_i hc
      simp only [Bool.and_eq_true] at hc
      split at h
      · rename_i t m' h4 h5
        cases h
        obtain ⟨z1, z2⟩ := swapNone_ok G hc.1
        exact sx_asg hc.2 (se.E X x N sc G _ _ h5) (pg h4) z1 z2
      · cases h
    · cases h
  · rename_i e p
    split at h
    · rename_i hc
      simp only [decide_eq_true_eq] at hc
      cases ha : cE cc n ⟨N, sc⟩ e with
      | none => rw [ha] at h; cases h
      | some ma => rw [ha] at h; cases h; exact sx_expr (se.E X x N sc G _ _ ha) (by rw [swaps_env, G.sc]; exact pureOf_eq hc)
    · cases h
  · cases h; exact sx_retN
  · rename_i es lp p
    split at h
    · cases ha : cEs cc n ⟨N, sc⟩ es with
      | none => rw [ha] at h; cases h
      | some ma => rw [ha] at h; cases h; exact sx_ret (ex_mlst (se.Es X x N sc G _ _ ha))
    · cases ha : cEs cc n ⟨N, sc⟩ es with
      | none => rw [ha] at h; cases h
      | some ma => rw [ha] at h; cases h; exact sx_ret (ex_lst (se.Es X x N sc G _ _ ha))
  · rename_i e p hx
    cases ha : cE cc n ⟨N, sc⟩ e with
    | none => rw [ha] at h; cases h
    | some ma => rw [ha] at h; cases h; exact sx_ret (se.E X x N sc G _ _ ha)
  · split at h
    · rename_i h1 h2 h3
      cases h
      exact sx_ite (se.C X x N sc G _ _ h1) (ih.Ss X x N sc G O _ _ h2) (ih.Ss X x N sc G O _ _ h3)
    · cases h
  · split at h
    · rename_i h1 h2 h3
      cases h
      obtain ⟨z1, z2⟩ := se.I X x N sc G _ _ _ h1
      exact sx_for G z2 z1 (pg h2) (ih.Ss X x N sc G O _ _ h3)
    · cases h
  · split at h
    · rename_i h1 h2
      cases h
      exact sx_while G (se.C X x N sc G _ _ h1) (ih.Ss X x N sc G O _ _ h2)
    · cases h
  · cases h; exact sx_brk
  · cases h; exact sx_cont
  · cases h; exact sx_pass
  · cases h
theorem snd_Ss {rf : Bool} {n : Nat} (ih : SndS cc W c rf n) : ∀ X x N sc, Good X W x c N sc → StoreOk X N sc → ∀ st m, cSs cc rf (n + 1) ⟨N, sc⟩ st = some m → Bx X W x c st m := by
  intro X x N sc G O st m h
  cases st with
  | nil => cases h; exact bx_nil
  | cons s r =>
    simp only [cSs] at h
    split at h
    · rename_i h1 h2
      cases h
      exact bx_cons (ih.S X x N sc G O _ _ h1) (ih.Ss X x N sc G O _ _ h2)
    · cases h
theorem sndS {rf : Bool} (K : CcOk cc W c) : ∀ n, SndS cc W c rf n
  | 0 => ⟨fun _ _ _ _ _ _ st m h => by simp [cS] at h, fun _ _ _ _ _ _ st m h => by simp [cSs] at h⟩
  | n + 1 => ⟨snd_S K (sndS K n), snd_Ss (sndS K n)⟩
end
end NM
end

section
set_option linter.all false
set_option maxHeartbeats 4000000
set_option autoImplicit false
/-! NM: defs. -/
namespace NM
open PySem PyProof.Rows L2
def Gh.cut (g : Gh) (k : Nat) : Gh := ⟨g.mu.take k, g.G⟩
section
variable {W : Wr} {g : Gh} {k : Nat}
theorem cut_mu {n : Nat} {a : Addr} : (g.cut k).mu[n]? = some a ↔ n < k ∧ g.mu[n]? = some a := by
  show (g.mu.take k)[n]? = some a ↔ _
  rw [List.getElem?_take]
  split
  · rename_i h; simp [h]
  · rename_i h; simp [h]
mutual
theorem Rep.cut : ∀ {d : D} {v : V}, Rep W g d v → d.low k = true → Rep W (g.cut k) d v
  | _, _, .non, _ => .non
  | _, _, .bl b, _ => .bl b
  | _, _, .int i, _ => .int i
  | _, _, .str s, _ => .str s
  | _, _, .tup a r, h => .tup a (Reps.cut r h)
  | _, _, .lst a r, h => .lst a (Reps.cut r h)
  | _, _, .scr a r, h => .scr a (Reps.cut r h)
  | _, _, .ins c a r, h => .ins c a (RepF.cut r h)
  | _, _, .exc c a b r, h => .exc c a b (RepF.cut r h)
  | _, _, .ref a, h => .ref (cut_mu.mpr ⟨of_decide_eq_true h, a⟩)
theorem Reps.cut : ∀ {d : List D} {v : List V}, Reps W g d v → D.lows k d = true → Reps W (g.cut k) d v
  | _, _, .nil, _ => .nil
  | _, _, .cons a r, h => by
    simp only [D.lows, Bool.and_eq_true] at h
    exact .cons (Rep.cut a h.1) (Reps.cut r h.2)
theorem RepF.cut : ∀ {d : List (Str × D)} {v : List (Str × V)}, RepF W g d v → D.lowF k d = true → RepF W (g.cut k) d v
  | _, _, .nil, _ => .nil
  | _, _, .cons a r, h => by
    simp only [D.lowF, Bool.and_eq_true] at h
    exact .cons (Rep.cut a h.1) (RepF.cut r h.2)
end
theorem To.cut {g g' : Gh} {H H' : Hp} {s s' : S} (r : SR W g H s) (t : To W g H s g' H' s') (hf : ∀ n d, n < s.length → s'[n]? = some (.frz d) → d.low s.length = true)
    (hl : ∀ n ds, n < s.length → s'[n]? = some (.lst ds) → D.lows s.length ds = true) : To W g H s (g'.cut s.length) H' (s'.take s.length) := by
  refine ⟨⟨fun n a h => cut_mu.mpr ⟨?_, t.ext.mu n a h⟩, t.ext.G⟩, ⟨t.st.sub, ?_, fun n m h => ?_, fun n m p q a h1 h2 l1 l2 z1 z2 => ?_⟩, fun a o h n => ⟨(t.keep a o h n).1, fun ⟨m, mo, h1, h2, h3⟩ => (t.keep a o h n).2 ⟨m, mo, ?_, h2, (cut_mu.mp h3).2⟩⟩, t.fix⟩
  · rw [← r.len]; exact (List.getElem?_eq_some_iff.mp h).1
  · show (g'.mu.take s.length).length = _
    rw [List.length_take, List.length_take, t.st.len]
  · rw [List.getElem?_take] at h
    split at h
    · rename_i hn
      obtain ⟨a, h1, h2⟩ := t.st.mo n m h
      refine ⟨a, cut_mu.mpr ⟨hn, h1⟩, ?_⟩
      cases m with
      | lst ds =>
        obtain ⟨xs, h3, h4, h5⟩ := h2
        exact ⟨xs, h3, h4.cut (hl n ds hn h), h5⟩
      | frz d => exact Rep.cut h2 (hf n d hn h)
      | gone => trivial
    · cases h
  · rw [List.getElem?_take] at h1 h2
    split at h1
    · split at h2
      · exact t.st.ne n m p q a h1 h2 l1 l2 (cut_mu.mp z1).2 (cut_mu.mp z2).2
      · cases h2
    · cases h1
  · rw [List.getElem?_take] at h1
    split at h1
    · exact h1
    · cases h1
end

/-- one def as it stands in the written part -/
structure DefOk (K : PySem.W.Frag) (mg : Str → Option Value) (cc : CC) (f : Str) (F : Fn) (fA : Addr) (fd : FuncData) (ps : List Str) : Prop where
  mg : mg f = some (.ref fA)
  keep : PySem.W.keepIn K (.ref fA) = true
  binds : Binds K fd ps []
  np : F.ps = ps.length
  ex : ∃ (N : List Str) (params : Arguments) (body : List Stmt) (scope : Scope) (rf : Bool) (n : Nat) (qual : Str) (dvs : List V) (kws : List (Str × V)), FunD K f qual params body scope dvs kws fA fd ∧ FnScope N ps scope ∧ cSs cc rf n ⟨N, scope⟩ body = some F.body ∧ F.n = N.length
/-- what the text says of itself -/
structure Facts (prog : Program) (w : World) (K : PySem.W.Frag) (mg : Str → Option Value) (W : Wr) (P : Prg) (cc : CC) : Prop where
  eK : W.K = K
  con : ∀ n d, P.con n = some d → ∃ u v, mg n = some u ∧ RelV v u ∧ ∀ g, Rep W g d v
  free : ∀ n : Str, n ∈ (["len", "int", "abs", "list", "max", "all", "isinstance", "range", "enumerate", "zip"] : List Str) → mg n = none
  new : ∀ f, (P.par f).isSome = true → ∃ C, mg f = some (.ref C) ∧ PySem.W.keepIn K (.ref C) = true ∧ ∀ X' : Cx, X'.prog = prog → X'.w = w → X'.K = K → Room 2 X'.A → NewOk X' W P.par f C
  insF : ∀ k C f, W.cls k = some C → P.fld k f = true → NoAttr K C f ∧ Cls K C
  excF : ∀ k C f, W.exc k = some C → P.fld k f = true → NoAttr K C f ∧ ExcC K C
  bty : ∀ k T, (k, T) ∈ ([("NoneType", "NoneType"), ("bool", "bool"), ("int", "int"), ("str", "str"), ("tuple", "tuple"), ("list", "list")] : List (Str × String)) → W.ty k = some T
  insC : ∀ k C, W.cls k = some C → W.ty k = none ∧ InsC K C
  excC : ∀ k C, W.exc k = some C → W.ty k = none ∧ W.cls k = none ∧ ExcC K C
  isi : ∀ t k b p q, P.sub t k = some b → cv W t = some p → cv W k = some q → PySem.W.kitOne K p.2 q.2 = some b
  clsG : ∀ k p, cv W k = some p → (W.ty k = none → mg k = some p.2) ∧ (∀ T, W.ty k = some T → k ∈ (["int", "bool", "str", "list", "tuple", "ValueError", "LookupError", "IndexError"] : List Str) → mg k = none ∧ bootBuiltins k = some (.type T))
  defs : ∀ f F, P.fn f = some F → ∃ fA fd ps, DefOk K mg cc f F fA fd ps
  clsN : ∀ k, cc.cls.contains k = true → (∃ q, cv W k = some q) ∧ (W.ty k = none ∨ k ∈ tySame)
  subN : ∀ t k b, P.sub t k = some b → ∃ q, cv W t = some q
  exs : ∀ f p, cc.exs.lookup f = some p → P.par f = some p
section
variable {prog : Program} {w : World} {K : PySem.W.Frag} {mg : Str → Option Value} {W : Wr} {P : Prg} {cc : CC} {base : Heap}
theorem start_env {g : Gh} {ds : List D} {vs : List V} (r : Reps W g ds vs) (N : List Str) : EnvR W g (NM.start N.length ds) (L2.start N vs) := by
  refine ⟨by simp [NM.start, L2.start, r.len], fun i d h => ?_⟩
  unfold NM.start at h
  by_cases hi : i < ds.length
  · rw [List.getElem?_append_left (by simpa using hi), List.getElem?_map] at h
    cases e : ds[i]? with
    | none => rw [e] at h; cases h
    | some d' =>
      rw [e] at h
      cases h
      obtain ⟨v, h1, h2⟩ := r.get e
      refine ⟨v, ?_, h2⟩
      unfold L2.start
      rw [List.getElem?_append_left (by simp [r.len]; exact hi), List.getElem?_map, h1]
      rfl
  · rw [List.getElem?_append_right (by simpa using hi), List.getElem?_replicate] at h
    split at h <;> cases h
theorem cutR_to {g g' : Gh} {H H' : Hp} {s s' t : S} {F : Fn} {d : D} (r : SR W g H s) (k : cutR F s d s' = some t) (T : To W g H s g' H' s') :
    ∃ g2, To W g H s g2 H' t ∧ (∀ v, Rep W g' d v → Rep W g2 d v) ∧ ∀ cls od, ExnR W g' H' d cls od → ExnR W g2 H' d cls od := by
  unfold cutR at k
  split at k
  · cases k
    exact ⟨g', T, fun _ h => h, fun _ _ h => h⟩
  · split at k
    · rename_i h
      cases k
      simp only [Bool.and_eq_true] at h
      have low : ∀ n m, n < s.length → s'[n]? = some m → MO.low s.length m = true := fun n m hn e => by
        refine List.all_eq_true.mp h.2 m (List.mem_of_getElem? (i := n) ?_)
        rw [List.getElem?_take, if_pos hn]
        exact e
      refine ⟨g'.cut s.length, To.cut r T (fun n d hn e => low n _ hn e) (fun n ds hn e => low n _ hn e), fun v q => q.cut h.1, fun cls od ⟨k, fs, C, dd, vs, e1, e2, e3, e4, e5, e6⟩ => ?_⟩
      subst e1
      exact ⟨k, fs, C, dd, vs, rfl, e2, e3, e4, e5, e6.cut h.1⟩
    · cases k
theorem run_len {n : Nat} {f : Str} {F : Fn} (hf : P.fn f = some F) (ds : List D) (s : S) (h : run P n f ds s ≠ .bad) : ds.length = F.ps := by
  cases n with
  | zero => exact absurd rfl h
  | succ n =>
    unfold run at h
    rw [hf] at h
    simp only at h
    split at h
    · rename_i z; exact z.1
    · exact absurd rfl h
/-- each def keeps its promise, to any depth -/
theorem fn_all (FA : Facts prog w K mg W P cc) : ∀ (n : Nat) (f : Str) (F : Fn) (fA : Addr) (fd : FuncData) (ps : List Str), P.fn f = some F → DefOk K mg cc f F fA fd ps →
    FnOk prog w K mg base (L2.CX prog w) (n + 3) fA fd ps (spOf W (run P n f) ps.length)
  | 0, f, F, fA, fd, ps, hf, D0 => ⟨fun vs H Q E ⟨g, ds, s, _, r, hl, z⟩ => z.elim, fun A outer s H args us vs Q E _ _ _ _ ⟨g, ds, st, _, _, _, z⟩ => z.elim⟩
  | n + 1, f, F, fA, fd, ps, hf, D0 => by
    have IH := fn_all FA n
    obtain ⟨N, params, body, scope, rf, fuel, qual, dvs, kws, FD, S, hc, hN⟩ := D0.ex
    refine FD.ok (k := n + 3) S (fun vs H Q E ⟨g, ds, s, _, r, hl, _⟩ => by rw [r.len]; exact hl) fun cdv A outer s0 H vs Q E hr ⟨g, ds, s, q, r, hl, fin⟩ => ?_
    let x : XW := fun e s g σ H' => ∀ cls od, ExnR W g H' e cls od → E cls od H'
    let c := P.ctx (run P n)
    have G : Good (cxOf (L2.CX prog w) prog w K mg base N qual scope fA cdv A outer s0 H E) W x c N scope := {
      K := FA.eK
      N := rfl
      nd := S.nd
      sc := rfl
      calm := rfl
      units := by have := hr.un; show (A.deeper _).units + 65 < cLine; omega
      con := FA.con
      free := FA.free
      own := fun f' hh => by
        have hh' : (P.fn f').isSome = true := hh
        cases hf' : P.fn f' with
        | none => rw [hf'] at hh'; cases hh'
        | some F' =>
          obtain ⟨fA', fd', ps', D'⟩ := FA.defs f' F' hf'
          exact ⟨n + 3, fA', fd', ps', D'.mg, D'.keep, hr, D'.binds, IH f' F' fA' fd' ps' hf' D', fun ds s z => by rw [run_len hf' ds s z, D'.np]⟩
      new := fun f' hp => by
        obtain ⟨C, h1, h2, h3⟩ := FA.new f' hp
        exact ⟨C, h1, h2, fun X' e1 e2 e3 e4 => h3 X' e1 e2 e3 (by rw [e4]; exact hr.mono (by omega))⟩
      takes := (takes_of rfl rfl rfl rfl).imp fun cls od σ H' ⟨e, s, g, z1, _, z2⟩ => z2 cls od z1
      po := passes_of rfl
      insF := FA.insF
      excF := FA.excF
      bty := FA.bty
      insC := FA.insC
      excC := FA.excC
      isi := FA.isi
      clsG := FA.clsG }
    have O : StoreOk (cxOf (L2.CX prog w) prog w K mg base N qual scope fA cdv A outer s0 H E) N scope := ⟨rfl, S.nd, fun _ h => h, fun _ h => ⟨h, rfl⟩, rfl⟩
    refine ⟨RdS W x (exs c F.body), (sndS (cc := cc) (W := W) (c := c) (rf := rf) ⟨FA.clsN, FA.subN, FA.exs⟩ fuel).Ss _ x N scope G O body F.body hc, g, NM.start N.length ds, s, start_env r N, q, ?_⟩
    have fin' : FinC W g H s Q E (if ds.length = F.ps ∧ F.ps ≤ F.n then endR F s (exs c F.body (NM.start F.n ds) s) else .bad) := by
      have z := fin
      unfold run at z
      rw [hf] at z
      exact z
    split at fin'
    · rw [hN] at fin'
      cases ho : exs c F.body (NM.start N.length ds) s with
      | nx ρ s' =>
        rw [ho] at fin'
        have f2 : FinC W g H s Q E (match cutR F s .non s' with | some t => .ok .non t | none => .bad) := fin'
        cases hcut : cutR F s .non s' with
        | none => rw [hcut] at f2; exact f2.elim
        | some t =>
          rw [hcut] at f2
          intro g' H' σ' T _
          obtain ⟨g2, T2, h1, _⟩ := cutR_to q hcut T
          exact f2 g2 .non H' T2 .non
      | rt d s' =>
        rw [ho] at fin'
        have f2 : FinC W g H s Q E (match cutR F s d s' with | some t => .ok d t | none => .bad) := fin'
        cases hcut : cutR F s d s' with
        | none => rw [hcut] at f2; exact f2.elim
        | some t =>
          rw [hcut] at f2
          intro g' H' v T rv
          obtain ⟨g2, T2, h1, _⟩ := cutR_to q hcut T
          exact f2 g2 v H' T2 (h1 v rv)
      | exn e s' =>
        rw [ho] at fin'
        have f2 : FinC W g H s Q E (match cutR F s e s' with | some t => .exn e t | none => .bad) := fin'
        cases hcut : cutR F s e s' with
        | none => rw [hcut] at f2; exact f2.elim
        | some t =>
          rw [hcut] at f2
          intro g' H' σ' T cls od er
          obtain ⟨g2, T2, _, h1⟩ := cutR_to q hcut T
          exact f2 g2 H' cls od T2 (h1 cls od er)
      | bk ρ s' => rw [ho] at fin'; exact fin'.elim
      | ct ρ s' => rw [ho] at fin'; exact fin'.elim
      | bad => rw [ho] at fin'; exact fin'.elim
    · exact fin'.elim
end
end NM
end

section
set_option linter.all false
set_option maxHeartbeats 4000000
set_option maxRecDepth 100000
set_option autoImplicit false
/-! NM: an own exception class called, by place or by name. -/
namespace NM
open PySem PySem.Calls PyProof.Rows PySem.HandSPX
section
variable {M : Model} {A : Around} {E : Value → Shared → Prop} {h : Heap} {g : Array GenState} {d : Drawn} {t : Nat} {os : OsState}
variable {nm q : Str} {C N : Addr} {bs bm bmB : List Value} {hdct : Bool} {sn : List Str} {sub : List Value} {ab : Bool} {col : Option Bool} {dd : Option Addr} {k0 k1 k2 k3 k5 : Option Value} {B newId initId : String}
/-- what the heap says of the class -/
structure XC (h : Heap) (C : Addr) (B newId initId : String) (bmB : List Value) : Prop where
  F : ExcBaseFacts B newId initId bmB
  at_ : ∃ nm q N bs bm hdct sn sub ab col dd k0 k1 k2 k3 k5, h.get? C = some (excClassObj nm q C N bs bm hdct sn sub ab col dd k0 k1 k2 k3 k5 newId) ∧ ∀ X : String, bm.contains (.type X) = bmB.contains (.type X)
theorem XC.up {h' : Heap} (x : XC h C B newId initId bmB) (k : ∀ b o, h.get? b = some o → h'.get? b = some o) : XC h' C B newId initId bmB := by
  obtain ⟨nm, q, N, bs, bm, hdct, sn, sub, ab, col, dd, k0, k1, k2, k3, k5, e, z⟩ := x.at_
  exact ⟨x.F, nm, q, N, bs, bm, hdct, sn, sub, ab, col, dd, k0, k1, k2, k3, k5, k _ _ e, z⟩
theorem xc_new (x : XC h C B newId initId bmB) {args : List Value} {kw : List (Str × Value)} {Q : Unit → Shared → Prop} (go : Q () ⟨h, g, d, t, os⟩) :
    wpAny M A (checkBuiltinCall newId ⟨.ref C :: args, kw⟩) Q E ⟨h, g, d, t, os⟩ := by
  obtain ⟨F, nm, q, N, bs, bm, hdct, sn, sub, ab, col, dd, k0, k1, k2, k3, k5, hC, hT⟩ := x
  have c1 : (Value.ref C :: bm).contains (.type B) = true := by
    rw [List.contains_cons, hT B, F.hasB]
    exact Bool.or_true _
  have c2 := F.noStar
  simp only [checkBuiltinCall, F.newKind, F.newSplit, F.newRow]
  repeat (first | wp_step | refine wpAny_loadPart_at hC ?_ | (refine wpAny_isSubtype_exc hC ?_; rw [c1]) | refine wpAny_staticBase_exc hC ?_ | refine wpAny_madeBy_exc hC ?_ | simp only [bne_self_eq_false, if_false, Bool.false_eq_true])
  exact go
end
section
variable {prog : Program} {w : World} {A : Around} {E : Value → Shared → Prop} {R : Result → Shared → Prop} {h : Heap} {g : Array GenState} {d : Drawn} {t : Nat} {os : OsState}
variable {C : Addr} {bmB : List Value} {B newId initId : String}
theorem xc_born (x : XC h C B newId initId bmB) {args : List Value} {kw : List (Str × Value)} (hz : args.length ≤ sizeLine)
    (go : R (.ok (.ret (.ref (h.objs.size + 1)))) ⟨(h.push (W.kdv_tup args)).push (excO C h.objs.size), g, d, t, os⟩) : codeAny (model prog w) A (.builtin newId ⟨.ref C :: args, kw⟩) R ⟨h, g, d, t, os⟩ := by
  obtain ⟨F, nm, q, N, bs, bm, hdct, sn, sub, ab, col, dd, k0, k1, k2, k3, k5, hC, hT⟩ := x
  have he := F.ends
  have c1 : (Value.ref C :: bm).contains (.type B) = true := by
    rw [List.contains_cons, hT B, F.hasB]
    exact Bool.or_true _
  have c2 : (Value.ref C :: bm).contains (.type "AttributeError") = false := by
    rw [List.contains_cons, hT "AttributeError", F.noAttr]
    rfl
  have c3 : (Value.ref C :: bm).contains (.type "NameError") = false := by
    rw [List.contains_cons, hT "NameError", F.noName]
    rfl
  refine codeAny_builtinAt F.entry ?_
  unfold Builtin.«BaseException.__new__»
  refine PySem.wpAt_bind (show PySem.wpAt _ _ _ (stack >>= _) _ _ _ from ?_)
  refine PySem.wpAt_bind (PySem.wpAt_stack fun p below => PySem.wpAt_of_wpAny ?_)
  wp_walk
  refine PySem.wpAt_of_wpAny ?_
  rw [F.owner]
  repeat (first | with_reducible refine wpAny_loadPart_at hC ?_ | with_reducible refine wpAny_madeHere_exc F.canon hC ?_ | (with_reducible refine wpAny_isSubtype_exc hC ?_; first | rw [c1] | rw [c2] | rw [c3]) | wp_step)
  have z := go
  show R _ _
  rw [Heap.size_push]
  exact z
theorem xc_typ (x : XC h C B newId initId bmB) {args : List Value} {kw : List (Str × Value)} {fI : Addr} {Q : PySem.Fin → Shared → Prop} (hz : args.length ≤ sizeLine)
    (li : W.Looks (model prog w) h (typeLookup (.ref C) "__init__") (some (.ref fI))) (lb : ∀ self, W.Looks (model prog w) h (bindSpecial (.ref fI) self) (.ref fI, [self]))
    (go : codeAny (model prog w) A (.call (.ref fI) ⟨.ref (h.objs.size + 1) :: args, kw⟩)
      (fun r s' => match r with | .ok (.ret v) => v = .none ∧ Q (.done (.ret (.ref (h.objs.size + 1)))) s' | .ok _ => False | .error e => E e s')
      ⟨(h.push (W.kdv_tup args)).push (excO C h.objs.size), g, d, t, os⟩) :
    wpAny (model prog w) A (Builtin.«type.__call__» ⟨.ref C :: args, kw⟩) Q E ⟨h, g, d, t, os⟩ := by
  have x0 := x
  obtain ⟨F, nm, q, N, bs, bm, hdct, sn, sub, ab, col, dd, k0, k1, k2, k3, k5, hC, hT⟩ := x
  repeat (first | with_reducible refine wpAny_madeBy_exc hC ?_ | with_reducible refine wpAny_loadPart_at hC ?_ | wp_step)
  refine codeAny_call_builtin_code (Code.quiet_builtin _ F.quiet) (xc_new x0 (xc_born x0 hz ?_))
  show wpAny _ _ _ _ _ _
  have up : ∀ b o, h.get? b = some o → ((h.push (W.kdv_tup args)).push (excO C h.objs.size)).get? b = some o := fun b o e => (h.push _).get?_push_of_some _ (h.get?_push_of_some _ e)
  have e1 := up _ _ hC
  have e2 : ((h.push (W.kdv_tup args)).push (excO C h.objs.size)).get? (h.objs.size + 1) = some (excO C h.objs.size) := by heap_get
  have e3 : (Value.ref C :: bm).contains (.ref C) = true := by simp
  have e4 := li.keeps up
  have e5 := (lb (.ref (h.objs.size + 1))).keeps up
  unfold isInstance
  repeat (first | with_reducible refine wpAny_loadPart_at e2 ?_ | (with_reducible refine wpAny_isSubtype_exc e1 ?_; rw [e3]) | wp_step)
  refine (show wpAny _ _ (typeLookup (.ref C) _) _ _ _ from e4.at ?_)
  refine wpAny_holding (wpAny_bind (e5.at (wpAny_bind (wpAny_call (codeAny_mono go fun r s' z => ?_)))))
  cases r with
  | error e => exact z
  | ok fl =>
    cases fl with
    | ret v =>
      obtain ⟨rfl, z⟩ := z
      first
        | exact wpAny_pure (wpAny_pure z)
        | (wp_walk; exact z)
    | next => exact z.elim
    | brk => exact z.elim
    | cont => exact z.elim
theorem xc_call (x : XC h C B newId initId bmB) {args : List Value} {kw : List (Str × Value)} {fI : Addr} {Q : Value → Shared → Prop} (hz : args.length ≤ sizeLine)
    (li : W.Looks (model prog w) h (typeLookup (.ref C) "__init__") (some (.ref fI))) (lb : ∀ self, W.Looks (model prog w) h (bindSpecial (.ref fI) self) (.ref fI, [self]))
    (go : codeAny (model prog w) (A.under (.builtin "type.__call__" ⟨.ref C :: args, kw⟩)) (.call (.ref fI) ⟨.ref (h.objs.size + 1) :: args, kw⟩) (W.InitBack (h.objs.size + 1) (fun r s' => match r with | .ok (.ret v) => Q v s' | .ok _ => False | .error e => E e s'))
      ⟨(h.push (W.kdv_tup args)).push (excO C h.objs.size), g, d, t, os⟩) :
    wpAny (model prog w) A (call (.ref C) args kw) Q E ⟨h, g, d, t, os⟩ := by
  have x0 := x
  obtain ⟨F, nm, q, N, bs, bm, hdct, sn, sub, ab, col, dd, k0, k1, k2, k3, k5, hC, hT⟩ := x
  have f1 := tc_lookup
  have f2 := tc_bind (.ref C)
  have f3 : (⟨h, g, d, t, os⟩ : Shared).TypeIs (.ref C) "type" := ⟨_, hC, rfl⟩
  refine wpAny_call (codeAny_of_tree (show wpAny _ _ (callAny (.ref C) _) _ _ _ from ?_))
  repeat (any_goals (first | assumption | with_reducible refine wpAny_loadPart_at hC ?_ | wp_step))
  have ck : ∀ {Q' : Unit → Shared → Prop} {E' : Value → Shared → Prop} {A' : Around}, Q' () ⟨h, g, d, t, os⟩ → wpAny (model prog w) A' (checkBuiltinCall "type.__call__" ⟨.ref C :: args, kw⟩) Q' E' ⟨h, g, d, t, os⟩ := by
    intro Q' E' A' z
    have f4 := tc_sub
    simp only [checkBuiltinCall, tc_kind, tc_split]
    repeat (any_goals (first | assumption | with_reducible refine wpAny_loadPart_at hC ?_ | with_reducible refine wpAny_onRaise ?_ | with_reducible refine wpAny_map ?_ | wp_step))
  refine ⟨rfl, codeAny_call_builtin_at (Code.quiet_builtin _ (by decide +kernel)) entry_typeCall (ck (xc_typ x0 hz li lb (codeAny_mono go fun r s' z => ?_)))⟩
  cases r with
  | error e => exact z
  | ok fl => cases fl <;> exact z
end
end NM
end

section
set_option linter.all false
set_option maxHeartbeats 4000000
set_option maxRecDepth 100000
set_option autoImplicit false
/-! NM: the own __init__ of an exception class. -/
namespace NM
open PySem PySem.W PySem.Calls PyProof.Rows PySem.HandSPX
/-- the bases that stand above -/
structure BaseOk (B newId initId : String) (bmB : List Value) : Prop where
  F : ExcBaseFacts B newId initId bmB
  S : StoreFacts B bmB "object.__setattr__" "object"
  X : KxsFacts B initId
theorem base_value : BaseOk "ValueError" "ValueError.__new__" "ValueError.__init__" [.type "ValueError", .type "Exception", .type "BaseException", .type "object"] := ⟨PySem.F.excBase_ValueError, PySem.F.store_ValueError, kxs_ValueError⟩
theorem base_lookup : BaseOk "LookupError" "LookupError.__new__" "LookupError.__init__" [.type "LookupError", .type "Exception", .type "BaseException", .type "object"] := ⟨PySem.F.excBase_LookupError, PySem.F.store_LookupError, kxs_LookupError⟩
theorem base_index : BaseOk "IndexError" "IndexError.__new__" "IndexError.__init__" [.type "IndexError", .type "LookupError", .type "Exception", .type "BaseException", .type "object"] := ⟨PySem.F.excBase_IndexError, PySem.F.store_IndexError, kxs_IndexError⟩
/-- the class as the written part has it -/
structure XT (K : Frag) (C fI : Addr) (B newId initId : String) (bmB : List Value) : Prop where
  b : BaseOk B newId initId bmB
  i : excInitIn K C bmB newId = true
  o : excOver K C bmB = true
  d : hasDictIn K C = true
  f : findIn K (.ref C) "__init__" = some (some (.ref fI))
  ft : typeIn K (.ref fI) = some (.type "function")
  sa : findIn K (.ref C) "__setattr__" = some (some (.builtin "object.__setattr__"))
  up : ks_superIn K C C "__init__" = some (some (.builtin initId))
  sb : subIn K (.ref C) (.type B) = some true
  sC : mroIn K C (.ref C) = some true
  cl : (clsIn K C).isSome = true
  op : nsIn K cStatics "thirdparty.any" = some none
section
variable {prog : Program} {w : World} {A : Around} {E : Value → Shared → Prop} {h : Heap} {g : Array GenState} {d : Drawn} {t : Nat} {os : OsState} {K : Frag} {C fI x dx t0 : Addr} {B newId initId : String} {bmB : List Value} {f : Str} {u : Value} {mA : Str → Option Value} {ns : List Str} {Q : Unit → Shared → Prop}
/-- the first field -/
theorem fld_first (T : XT K C fI B newId initId bmB) (X : K.In h) (hx : h.get? x = some (excO C t0)) (ht : takerIn K C f = some none)
    (go : ∀ h' tk dx, (∀ b o, b ≠ x → h.get? b = some o → h'.get? b = some o) → h.objs.size ≤ dx → dx ≠ x → h'.get? x = some { cls := .ref C, dict := some dx, data := .fields #[.ref t0, .none, .none, .none, .bool false, .none] } →
      h'.Ns1 dx (fun y => if y = f then some u else none) → Q () ⟨h', g, d, tk, os⟩) : wpAny (model prog w) A (setAttr (.ref x) f u) Q E ⟨h, g, d, t, os⟩ := by
  have I : InstAt h x (excO C t0) C none := ⟨hx, rfl, rfl, trivial⟩
  have xs : x ≠ h.objs.size := Nat.ne_of_lt (Heap.lt_size hx)
  refine set_plain X I T.sa (osa_openX T.b.S X I T.o ht fun b => ?_)
  show wpAny _ _ (PySem.Builtin.ObjectAttr.storeInOwnDict (.ref x) (.ref C) (.str f t) f u b) _ _ _
  obtain ⟨cd, hc, hd⟩ := any_some T.d
  have lc : Looks (model prog w) h (classData C) cd := looks_clsIn X hc
  obtain ⟨nm, bs, mro, nsA, qn, hdd, sn, sb, ab, col, del⟩ := cd
  have hd2 : hdd = true := hd
  subst hd2
  unfold PySem.Builtin.ObjectAttr.storeInOwnDict PySem.Builtin.ObjectAttr.ownDictForStores
  repeat (first | with_reducible refine store_in_new ?_ ?_ | with_reducible refine wpAny_loadPart_at hx ?_ | with_reducible refine lc.at ?_ | wp_step)
  · refine ⟨_, #[], _, (Heap.get?_update_ne _ _ _ _ xs.symm).trans (Heap.get?_push_at rfl rfl), rfl, fun e z => ?_, fun _ => rfl⟩
    simp at z
  · intro h2 tk2 n2 s2
    have hx1 : (h.push { cls := .type "dict", data := .dict #[] }).get? x = some (excO C t0) := h.get?_push_of_some _ hx
    exact go h2 tk2 h.objs.size (fun b o hb e => (s2.2 b (Nat.ne_of_lt (Heap.lt_size e))).trans ((Heap.get?_update_ne _ _ _ _ hb).trans (h.get?_push_of_some _ e))) (Nat.le_refl _) xs.symm
      ((s2.2 x xs).trans (Heap.get?_update_self _ hx1 rfl)) n2
/-- a further field -/
theorem fld_next (T : XT K C fI B newId initId bmB) (X : K.In h) (hx : h.get? x = some { cls := .ref C, dict := some dx, data := .fields #[.ref t0, .none, .none, .none, .bool false, .none] }) (ht : takerIn K C f = some none)
    (hn : h.Ns1 dx mA) (hw : Within mA ns) (hz : ns.length ≤ 1000)
    (go : ∀ h' tk, (∀ b o, b ≠ dx → h.get? b = some o → h'.get? b = some o) → h'.Ns1 dx (fun y => if y = f then some u else mA y) → Q () ⟨h', g, d, tk, os⟩) : wpAny (model prog w) A (setAttr (.ref x) f u) Q E ⟨h, g, d, t, os⟩ := by
  obtain ⟨oD, e1, e2, hD, hDd, _⟩ := hn.count hw
  have I : InstAt h x { cls := .ref C, dict := some dx, data := .fields #[.ref t0, .none, .none, .none, .bool false, .none] } C (some oD) := ⟨hx, rfl, rfl, hD⟩
  refine set_plain X I T.sa (osa_openX T.b.S X I T.o ht fun b => ?_)
  show wpAny _ _ (PySem.Builtin.ObjectAttr.storeInOwnDict (.ref x) (.ref C) (.str f t) f u b) _ _ _
  obtain ⟨cd, hc, hd⟩ := any_some T.d
  have lc : Looks (model prog w) h (classData C) cd := looks_clsIn X hc
  obtain ⟨nm, bs, mro, nsA, qn, hdd, sn, sb, ab, col, del⟩ := cd
  have hd2 : hdd = true := hd
  subst hd2
  unfold PySem.Builtin.ObjectAttr.storeInOwnDict PySem.Builtin.ObjectAttr.ownDictForStores
  repeat (first | with_reducible refine OEX.store_in_old hn hw hz ?_ | with_reducible refine wpAny_loadPart_at hx ?_ | with_reducible refine lc.at ?_ | wp_step)
  intro h2 tk2 n2 s2
  exact go h2 tk2 (fun b o hb e => (s2.2 b hb).trans e) n2
end
/-- the text of such an __init__ -/
structure IT (prog : Program) (K : Frag) (fI : Addr) (C : Addr) (k : Str) (par : Option Str) (fd : FuncData) (qual : Str) (scope : Scope) (cda cc : Addr) : Prop where
  lk : ∃ oc od osl, K.lookup fI = some ⟨oc, od, .func fd, osl⟩
  cd : codeIn K (.ref cda) qual = true
  fd : ∃ name params body kV doc pm an ct, fd = ksFn name qual params body scope .none kV doc pm an (.ref cda) ct cc ∧
    (∃ p1 p2 p3 p4 p5 p6 q1 q2 q3 q4 j1 j2, ∃ l : List Stmt, body = .Expr (.Call (.Attribute (.Call (.Name "super" p1) [] [] p2) "__init__" p3) [.Constant (.str k) j1 p4] [] p5) p6 :: .Assign [.Attribute (.Name "self" q1) "code" q2] (.Constant (.str k) j2 q3) q4 :: l ∧ (p3.endLine == p5.line) = true ∧
      ((par = none ∧ l = []) ∨ ∃ p r1 r2 r3 r4, par = some p ∧ l = [.Assign [.Attribute (.Name "self" r1) p r2] (.Name p r3) r4])) ∧
    ∃ a1 n1 P1, a1 = ("self" : Str) ∧ ((par = none ∧ params = { posonlyargs := [], args := [⟨a1, n1, P1⟩], vararg := none, kwonlyargs := [], kw_defaults := [], kwarg := none, defaults := [] }) ∨
      ∃ p n2 P2, par = some p ∧ params = { posonlyargs := [], args := [⟨a1, n1, P1⟩, ⟨p, n2, P2⟩], vararg := none, kwonlyargs := [], kw_defaults := [], kwarg := none, defaults := [] })
  file : ∃ ccl cdd vs ccs file tf, K.lookup cda = some ⟨ccl, cdd, .fields vs, ccs⟩ ∧ vs[2]? = some (.str file tf) ∧ ((prog.main.file : Str) == file) = true
  cell : ∃ cl cld csl, K.lookup cc = some ⟨cl, cld, .cell (some (.ref C)), csl⟩
  kind : scope.kind = .function
  co : scope.isCoroutine = false
  gen : scope.isGenerator = false
  noc : (scope.names.all fun y => y.2 != .cell) = true
  self : scope.names.lookup ("self" : Str) = some .local
  par : ∀ p, par = some p → scope.names.lookup p = some .local ∧ p ∈ (["given", "word", "at", "name", "number", "most", "line"] : List Str)
  cls : scope.names.lookup ("__class__" : Str) = some .free
  sup : scope.names.lookup ("super" : Str) = some .globalImplicit
  top : (prog.main.scope.names.lookup ("super" : Str)).isSome = false
theorem not_cell {l : List (Str × NameKind)} (h : (l.all fun y => y.2 != .cell) = true) : ∀ x ∈ l, x.2 ≠ .cell := fun x hx => by
  have z := List.all_eq_true.mp h x hx
  simpa using z
section
variable {prog : Program} {w : World} {A : Around} {E : Value → Shared → Prop} {hp h : Heap} {g : Array GenState} {d : Drawn} {t : Nat} {os : OsState} {K : Frag} {C fI x t0 L so cda cc : Addr} {B newId initId : String} {bmB : List Value} {m mg mb : Str → Option Value}
  {k qual : Str} {par : Option Str} {fd : FuncData} {scope : Scope} {body : List Stmt}
/-- super() -/
theorem sup_at (T : XT K C fI B newId initId bmB) (I : IT prog K fI C k par fd qual scope cda cc) {p0 p1 : Pos} {whole : Sem Value} {Q : Value → Shared → Prop} (X : K.In h) (hx : h.get? x = some (excO C t0))
    (hn : h.Ns L m) (hm : m "self" = some (.ref x)) (hg : h.Ns mainGlobals mg) (hgs : mg "super" = none) (hb : h.Ns builtinsNs mb) (hbs : mb "super" = bootBuiltins "super")
    (go : ∀ so h', h.objs.size ≤ so → (∀ b o, h.get? b = some o → h'.get? b = some o) → h'.get? so = some (ks_superObj C x C) → Q (.ref so) ⟨h', g, d, t, os⟩) :
    _root_.PySem.wpAt (model prog w) A (.func body (ksEnv qual scope L fI (.ref cda) cc)) (attributeBase (.Call (.Name "super" p0) [] [] p1) "__init__" (ksEnv qual scope L fI (.ref cda) cc) whole) Q E ⟨h, g, d, t, os⟩ := by
  obtain ⟨oc, od, osl, lk⟩ := I.lk
  obtain ⟨ccl, cdd, vs, ccs, file, tf, lc, l2, lf⟩ := I.file
  obtain ⟨cl, cld, csl, lcell⟩ := I.cell
  obtain ⟨name, params, bd, kV, doc, pm, an, ct, efd, _, a1, n1, P1, ea1, prm⟩ := I.fd
  obtain ⟨cdD, hcd⟩ := Option.isSome_iff_exists.mp T.cl
  obtain ⟨oD, D1, D2⟩ : ∃ oD, h.get? C = some oD ∧ oD.data = .cls cdD := by
    have z := hcd
    unfold clsIn at z
    split at z
    · rename_i ho
      cases z
      exact ⟨_, X _ _ ho, rfl⟩
    · cases z
  have hd : (fd.params.posonlyargs ++ fd.params.args).head? = some ⟨a1, n1, P1⟩ := by
    subst efd
    rcases prm with ⟨_, rfl⟩ | ⟨p, n2, P2, _, rfl⟩ <;> rfl
  subst ea1
  refine ks_wpAt_super_base (env := ksEnv qual scope L fI (.ref cda) cc) I.sup I.cls rfl rfl (X _ _ lk) rfl hd rfl (X _ _ lc) rfl l2 lf I.top ?_
  refine ks_loadName_global I.kind I.sup (loadGlobal_builtin (env := ksEnv qual scope L fI (.ref cda) cc) hg hgs hb (hbs.trans (by rfl)) ⟨rfl, ?_⟩)
  refine wpAny_loadName_free I.kind I.cls rfl ⟨_, X _ _ lcell, rfl⟩ (wpAny_loadName_local I.kind I.self hn hm (ks_wpAny_isType_cls D1 D2 ⟨rfl, ?_⟩))
  exact ks_wpAny_call_super D1 D2 hx rfl (fun c e => nomatch e) (looks_mroIn X T.sC) fun h2 e up => go _ _ (Nat.le_refl _) up e
end
end NM
end

section
set_option linter.all false
set_option maxHeartbeats 4000000
set_option maxRecDepth 100000
set_option autoImplicit false
/-! NM: the own __init__, walked. -/
namespace NM
open PySem PySem.W PySem.Calls PyProof.Rows PySem.HandSPX
/-- what __init__ leaves -/
structure Made (hp h' : Heap) (x C dx t1 : Addr) (mA : Str → Option Value) : Prop where
  keep : ∀ b o, hp.get? b = some o → h'.get? b = some o
  obj : h'.get? x = some { cls := .ref C, dict := some dx, data := .fields #[.ref t1, .none, .none, .none, .bool false, .none] }
  dbig : hp.objs.size ≤ dx
  dne : dx ≠ x
  ns : h'.Ns1 dx mA
/-- the fields as they stand in the dict -/
def mkD (par : Option Str) (l : List Value) (k : Str) (tc : Tok) : Str → Option Value := match par, l with
  | some p, u :: _ => fun y => if y = p then some u else if y = "code" then some (.str k tc) else none
  | _, _ => fun y => if y = "code" then some (.str k tc) else none
section
variable {prog : Program} {w : World} {A : Around} {E : Value → Shared → Prop} {hp h : Heap} {g : Array GenState} {d : Drawn} {t : Nat} {os : OsState} {K : Frag} {C fI x t0 L so cda cc : Addr} {B newId initId : String} {bmB : List Value} {m mg mb : Str → Option Value}
  {k qual : Str} {par : Option Str} {fd : FuncData} {scope : Scope} {body : List Stmt}
/-- a method's call, the name in the call's first line -/
theorem ev_meth {o e : Expr} {n : Str} {p3 p5 : Pos} {env : PySem.Env} (h : (p3.endLine == p5.line) = true) (hs : starEach [e] env = [(false, eval e env)]) : eval (.Call (.Attribute o n p3) [e] [] p5) env = (do
      let ov ← attributeBase o n env (eval o env)
      standAt p3.atName
      let (f, first) ← holding [ov] (getMethod ov n (do return (← importBound o env).getD true))
      callWith p5 f first (backTo p5 (starEach [e] env)) []) := by
  have b : backTo p5 (starEach [e] env) = (backTo p5 [(false, eval e env)]) := by rw [hs]
  have r : eval (.Call (.Attribute o n p3) [e] [] p5) env = (do
      let ov ← attributeBase o n env (eval o env)
      standAt p3.atName
      methodCall o n p3 p5 env ov 1 (backTo p5 (starEach [e] env)) []) := by rfl
  rw [r, b]
  have mf : methodCallForm 1 (backTo p5 [(false, eval e env)]) [] = true := by rfl
  unfold methodCall
  rw [mf]
  have mp : methodCallPos true o env p3 p5 = pure p5 := by
    unfold methodCallPos
    rw [h]
    rfl
  rw [mp]
  rfl
/-- super().__init__("..") -/
theorem sup_stm (T : XT K C fI B newId initId bmB) (I : IT prog K fI C k par fd qual scope cda cc) {p1 p2 p3 p4 p5 p6 : Pos} {j1 : Nat} {Q : Flow → Shared → Prop} (hp35 : (p3.endLine == p5.line) = true) (X : K.In hp) (hg : hp.Ns mainGlobals mg) (hgs : mg "super" = none) (hb : hp.Ns builtinsNs mb) (hbs : mb "super" = bootBuiltins "super")
    (F : Fr hp L h m) (hm : m "self" = some (.ref x)) (hx : h.get? x = some (excO C t0)) (hxp : hp.get? x = none) (hxL : x ≠ L)
    (go : ∀ h' t1 tk, Fr hp L h' m → h'.get? x = some (excO C t1) → Q .next ⟨h', g, d, tk, os⟩) :
    _root_.PySem.wpAt (model prog w) A (.func body (ksEnv qual scope L fI (.ref cda) cc)) (exec (.Expr (.Call (.Attribute (.Call (.Name "super" p1) [] [] p2) "__init__" p3) [.Constant (.str k) j1 p4] [] p5) p6) (ksEnv qual scope L fI (.ref cda) cc)) Q E ⟨h, g, d, t, os⟩ := by
  obtain ⟨kd, nms, ig, ic, mr⟩ := scope
  have ek : kd = .function := I.kind
  subst ek
  refine ks_wpAt_Expr_any (hi := by rfl) (hs := by rfl) (ks_wpAt_MethodCall (he := ev_meth hp35 rfl) ?_)
  refine sup_at T I (X.keeps F.keep) hx F.ns hm (hg.keeps F.keep) hgs (hb.keeps F.keep) hbs fun so h1 big k1 hso => ?_
  obtain ⟨oL, e1, e2, hL, rL⟩ := F.ns
  have F1 : Fr hp L h1 m := ⟨⟨oL, e1, e2, k1 _ _ hL, rL⟩, fun b o e => k1 b o (F.keep b o e), F.above⟩
  have lt : ∀ {b : Addr} {o : Obj}, h.get? b = some o → b ≠ so := fun {b o} e => Nat.ne_of_lt (Nat.lt_of_lt_of_le (Heap.lt_size e) big)
  have sop : hp.get? so = none := by
    cases e : hp.get? so with
    | none => rfl
    | some o => exact absurd rfl (lt (F.keep _ _ e))
  have N1 : News hp L h1 [(so, ks_superObj C x C), (x, excObj C t0 none .none)] := by
    intro p hpm
    rcases List.mem_cons.mp hpm with rfl | hpm
    · exact ⟨hso, Ne.symm (lt hL), sop⟩
    · rcases List.mem_cons.mp hpm with rfl | hpm
      · exact ⟨k1 _ _ hx, hxL, hxp⟩
      · cases hpm
  have I1 : InstAt h1 x (excObj C t0 none .none) C none := ⟨k1 _ _ hx, rfl, rfl, trivial⟩
  refine kxs_method T.b.X F1 X N1 (by simp) I1 T.op T.up T.sb rfl fun q h2 F2 N2 lq => ?_
  refine kxs_callWith1 (i := initId) (x := x) N2 (by simp) (spliced_more (Constant_str (spliced_none ?_)))
  refine ⟨kxs_at N2 (by simp), ?_⟩
  have U : UpdF x (excObj C t0 none .none) [(q, kxs_mw initId x), (so, ks_superObj C x C), (x, excObj C t0 none .none)] (fun o => [(q, kxs_mw initId x), (so, ks_superObj C x C), (x, o)]) := by
    refine .tail (Ne.symm (Nat.ne_of_lt (lq (x, excObj C t0 none .none) (by simp)))) (.tail (Ne.symm (lt hx)) (.head fun p z => nomatch z))
  refine kxs_call F2 X N2 T.b.F T.i (by simp) U (by show 1 ≤ sizeLine; rw [sizeLine_eq]; decide) fun t' h3 F3 N3 _ => ?_
  exact go h3 t' _ F3 (N3 (x, excObj C t' none .none) (by simp)).1
/-- the whole -/
theorem init_run (T : XT K C fI B newId initId bmB) (I : IT prog K fI C k par fd qual scope cda cc) {args : List Value} {kw : List (Str × Value)} {R : Result → Shared → Prop} (X : K.In hp) (hlim : hp.NoLimit) (hg : hp.Ns mainGlobals mg) (hgs : mg "super" = none)
    (hb : hp.Ns builtinsNs mb) (hbs : mb "super" = bootBuiltins "super") (hroom : A.depth < recursionLimit) (np : takerIn K C "code" = some none) (npp : ∀ p, par = some p → takerIn K C p = some none)
    (hk : (par = none ∧ args = [] ∧ kw = []) ∨ ∃ p u, par = some p ∧ ((args = [u] ∧ kw = []) ∨ (args = [] ∧ kw = [(p, u)])))
    (go : ∀ h' tk dx t1, ∀ tc, Made hp h' (hp.objs.size + 1) C dx t1 (mkD par (args ++ kw.map (·.2)) k tc) →
      R (.ok (.ret .none)) ⟨h', g, d, tk, os⟩) :
    codeAny (model prog w) A (.call (.ref fI) ⟨.ref (hp.objs.size + 1) :: args, kw⟩) R ⟨(hp.push (kdv_tup args)).push (excO C hp.objs.size), g, d, t, os⟩ := by
  have k0 : ∀ b o, hp.get? b = some o → ((hp.push (kdv_tup args)).push (excO C hp.objs.size)).get? b = some o := fun b o e => (hp.push _).get?_push_of_some _ (hp.get?_push_of_some _ e)
  have x0 : ((hp.push (kdv_tup args)).push (excO C hp.objs.size)).get? (hp.objs.size + 1) = some (excO C hp.objs.size) := by heap_get
  have xp : hp.get? (hp.objs.size + 1) = none := by
    cases e : hp.get? (hp.objs.size + 1) with
    | none => rfl
    | some o => exact absurd (Heap.lt_size e) (Nat.not_lt.mpr (Nat.le_succ _))
  obtain ⟨kd, nms, ig, ic, mr⟩ := scope
  have ek : kd = .function := I.kind
  subst ek
  obtain ⟨oc, od, osl, lk⟩ := I.lk
  obtain ⟨name, params, bd, kV, doc, pm, an, ct, efd, ⟨p1, p2, p3, p4, p5, p6, q1, q2, q3, q4, j1, j2, l, ebd, hp35, hl⟩, a1, n1, P1, ea1, prm⟩ := I.fd
  subst ea1
  have hbind : ∃ binds : List (Str × Value), BindsTo ⟨(hp.push (kdv_tup args)).push (excO C hp.objs.size), g, d, t, os⟩ fd ⟨.ref (hp.objs.size + 1) :: args, kw⟩ binds ∧
      ((par = none ∧ binds = [(("self" : Str), Value.ref (hp.objs.size + 1))]) ∨ ∃ p u, par = some p ∧ args ++ kw.map (·.2) = [u] ∧ binds = [(("self" : Str), Value.ref (hp.objs.size + 1)), (p, u)]) := by
    subst efd
    rcases hk with ⟨z1, z2, z3⟩ | ⟨p, u, z1, z2⟩
    · subst z1 z2 z3
      rcases prm with ⟨_, rfl⟩ | ⟨p, n2, P2, z, _⟩
      · exact ⟨_, BindsTo.of_eq (by rfl), .inl ⟨rfl, rfl⟩⟩
      · cases z
    · subst z1
      have pm := (I.par p rfl).2
      rcases prm with ⟨z, _⟩ | ⟨p', n2, P2, z, rfl⟩
      · cases z
      · cases z
        rcases z2 with ⟨rfl, rfl⟩ | ⟨rfl, rfl⟩
        · simp only [List.mem_cons, List.not_mem_nil, or_false] at pm
          rcases pm with rfl | rfl | rfl | rfl | rfl | rfl | rfl <;> exact ⟨_, BindsTo.of_eq (by rfl), .inr ⟨_, u, rfl, rfl, rfl⟩⟩
        · simp only [List.mem_cons, List.not_mem_nil, or_false] at pm
          rcases pm with rfl | rfl | rfl | rfl | rfl | rfl | rfl <;> exact ⟨_, BindsTo.of_eq (by rfl), .inr ⟨_, u, rfl, rfl, rfl⟩⟩
  obtain ⟨binds, hbd, hbs2⟩ := hbind
  have hloc : ∀ y ∈ binds, fd.scope.names.lookup y.1 = some .local := by
    subst efd
    intro y hy
    rcases hbs2 with ⟨_, rfl⟩ | ⟨p, u, hp1, _, rfl⟩
    · rcases List.mem_cons.mp hy with rfl | hy
      · exact I.self
      · cases hy
    · rcases List.mem_cons.mp hy with rfl | hy
      · exact I.self
      · rcases List.mem_cons.mp hy with rfl | hy
        · exact (I.par _ hp1).1
        · cases hy
  have hself : binds.reverse.lookup ("self" : Str) = some (.ref (hp.objs.size + 1)) := by
    rcases hbs2 with ⟨_, rfl⟩ | ⟨p, u, hp1, _, rfl⟩
    · rfl
    · have pm := (I.par _ hp1).2
      simp only [List.mem_cons, List.not_mem_nil, or_false] at pm
      rcases pm with rfl | rfl | rfl | rfl | rfl | rfl | rfl <;> rfl
  have es : fd.scope = ⟨.function, nms, ig, ic, mr⟩ := by rw [efd]
  have hsz : ((hp.push (kdv_tup args)).push (excO C hp.objs.size)).objs.size = hp.objs.size + 2 := by rw [Heap.size_push, Heap.size_push]
  refine ks_codeAny_call_defAt (fd := fd) (body := bd) (binds := binds) hroom (X.keeps k0 _ _ lk) rfl (hlim.keeps k0) (by rw [efd]; exact codeRec_of (X.keeps k0) I.cd) (by rw [efd]) hbd (by rw [es]; exact not_cell I.noc) hloc (fun h1 hns k1 => ?_)
    (by rw [es]; exact I.co) (by rw [es]; exact I.gen) (by rw [es])
  have env : callEnv fd ((hp.push (kdv_tup args)).push (excO C hp.objs.size)).objs.size fI = ksEnv qual ⟨.function, nms, ig, ic, mr⟩ ((hp.push (kdv_tup args)).push (excO C hp.objs.size)).objs.size fI (.ref cda) cc := by rw [efd]; rfl
  rw [env, ebd]
  have F1 : Fr hp ((hp.push (kdv_tup args)).push (excO C hp.objs.size)).objs.size h1 (fun y => binds.reverse.lookup y) := ⟨hns, fun b o e => k1 b o (k0 b o e), by rw [hsz]; omega⟩
  have xL : hp.objs.size + 1 ≠ ((hp.push (kdv_tup args)).push (excO C hp.objs.size)).objs.size := by rw [hsz]; omega
  generalize ((hp.push (kdv_tup args)).push (excO C hp.objs.size)).objs.size = L at *
  refine ks_wpAt_execs_cons (sup_stm T I hp35 X hg hgs hb hbs F1 hself (k1 _ _ x0) xp xL fun h2 t1 tk2 F2 hx2 => ?_)
  have ldS : ∀ {h3 : Heap} {tk3 : Nat} {pos : Pos} {Q : Value → Shared → Prop} {A' : Around} {E' : Value → Shared → Prop}, h3.Ns L (fun y => binds.reverse.lookup y) → Q (.ref (hp.objs.size + 1)) ⟨h3, g, d, tk3, os⟩ → wpAny (model prog w) A' (eval (.Name "self" pos) (ksEnv qual ⟨.function, nms, ig, ic, mr⟩ L fI (.ref cda) cc)) Q E' ⟨h3, g, d, tk3, os⟩ :=
    fun n q => wpAny_Name (wpAny_loadName_local I.kind I.self n hself q) (by decide)
  refine ks_wpAt_execs_cons (ks_wpAt_Assign_Attr (hs := by rfl) (PySem.wpAt_of_wpAny (Constant_str (ldS F2.ns ?_))))
  refine fld_first T (X.keeps F2.keep) hx2 np fun h3 tk3 dx k3 big dne hx3 n3 => ?_
  have Lx : L ≠ hp.objs.size + 1 := Ne.symm xL
  obtain ⟨oL, e1, e2, hL, rL⟩ := F2.ns
  have n3' : h3.Ns L (fun y => binds.reverse.lookup y) := ⟨oL, e1, e2, k3 _ _ Lx hL, rL⟩
  have old3 : ∀ b o, hp.get? b = some o → h3.get? b = some o := fun b o e => k3 b o (fun z => by rw [z, xp] at e; cases e) (F2.keep b o e)
  have dbig : hp.objs.size ≤ dx := Nat.le_trans F2.above (Nat.le_trans (Nat.le_of_lt (Heap.lt_size hL)) big)
  rcases hl with ⟨en, el⟩ | ⟨p, r1, r2, r3, r4, ep, el⟩
  · subst en el
    refine PySem.wpAt_of_wpAny (wpAny_execs_nil ?_)
    exact go h3 tk3 dx t1 _ ⟨old3, hx3, dbig, dne, n3⟩
  · subst ep el
    obtain ⟨pl, pmm⟩ := I.par p rfl
    rcases hbs2 with ⟨z, _⟩ | ⟨p', u, z, eu, rfl⟩
    · cases z
    cases z
    have hpu : List.lookup p ([(("self" : Str), Value.ref (hp.objs.size + 1)), (p, u)] : List (Str × Value)).reverse = some u := by simp [List.lookup]
    refine ks_wpAt_execs_cons (ks_wpAt_Assign_Attr (hs := by rfl) (PySem.wpAt_of_wpAny (wpAny_Name (wpAny_loadName_local I.kind pl n3' hpu (ldS n3' ?_)) ?_)))
    · refine fld_next T (X.keeps old3) hx3 (npp p rfl) n3 (ns := ["code"]) (fun y hy => ?_) (by decide) fun h4 tk4 k4 n4 => ?_
      · by_cases e : y = "code"
        · subst e; exact List.mem_cons_self ..
        · exact absurd (if_neg e) hy
      · refine PySem.wpAt_of_wpAny (wpAny_execs_nil ?_)
        have fin := go h4 tk4 dx t1 _ ⟨fun b o e => k4 b o (Nat.ne_of_lt (Nat.lt_of_lt_of_le (Heap.lt_size e) dbig)) (old3 b o e), k4 _ _ (Ne.symm dne) hx3, dbig, dne, by rw [eu]; exact n4⟩
        exact fin
    · simp only [List.mem_cons, List.not_mem_nil, or_false] at pmm
      rcases pmm with rfl | rfl | rfl | rfl | rfl | rfl | rfl <;> decide
end
end NM
end

section
set_option linter.all false
set_option maxHeartbeats 4000000
set_option maxRecDepth 100000
set_option autoImplicit false
/-! NM: .. and it is the exception of the plain side. -/
namespace NM
open PySem PySem.W PySem.Calls PyProof.Rows PySem.HandSPX
section
variable {X : L2.Cx} {pins : List (Addr × Obj)} {σ : L2.St} {H : L2.Hp} {s : Shared}
/-- two new objects, laid and tracked -/
theorem lay_two {h' : Heap} {t' : Nat} {a C dx t1 : Addr} {fs : List (Str × L2.V)} {mA : Str → Option Value} (I : L2.Inv X pins σ H s) (k : ∀ b o, s.heap.get? b = some o → h'.get? b = some o) (ha : s.heap.objs.size ≤ a) (hd : s.heap.objs.size ≤ dx) (ne : dx ≠ a)
    (oa : h'.get? a = some ({ cls := .ref C, dict := some dx, data := .fields #[.ref t1, .none, .none, .none, .bool false, .none] } : Obj)) (on : h'.Ns1 dx mA) (rel : ∀ f, L2.RelO (fs.lookup f) (mA f)) :
    L2.Inv X pins σ (L2.upd (L2.upd H a (L2.exo a C (some dx))) dx (L2.exd dx fs)) { s with heap := h', toks := t' } := by
  obtain ⟨G, g1, g2⟩ := L2.restrict h' fun b => decide (b ≠ dx)
  have gk : ∀ b, b ≠ dx → G.get? b = h'.get? b := fun b hb => g1 b (decide_eq_true hb)
  have ge : G.get? dx = none := g2 dx (by simp)
  have up : ∀ b o, G.get? b = some o → h'.get? b = some o := fun b o e => by
    by_cases hb : b = dx
    · rw [hb, ge] at e; cases e
    · exact (gk b hb).symm.trans e
  have nd : ∀ {b : Addr} {o : Obj}, s.heap.get? b = some o → b ≠ dx := fun {b o} e => Nat.ne_of_lt (Nat.lt_of_lt_of_le (Heap.lt_size e) hd)
  have I1 : L2.Inv X pins σ (L2.upd H a (L2.exo a C (some dx))) { s with heap := G, toks := t' } :=
    I.laid (t' := t') (fun b o e => (gk b (nd e)).trans (k b o e)) ha (L2.exo_ok ((gk a (Ne.symm ne)).trans oa))
  exact I1.laidN (h' := h') (t' := t') (a := dx) up ge (by rw [L2.upd_ne ne]; exact I.hok.fresh hd) (L2.exd_ok on rel)
end
section
variable {W : Wr} {g : Gh} {H : L2.Hp} {s : S} {a C dx : Addr} {k : Str} {fs : List (Str × D)} {vs : List (Str × L2.V)}
theorem exc_to (r : SR W g H s) (ha : H a = none) (hd : H dx = none) (ne : dx ≠ a) (c : W.exc k = some C) (q : RepF W g fs vs) :
    ∃ g', To W g H s g' (L2.upd (L2.upd H a (L2.exo a C (some dx))) dx (L2.exd dx vs)) s ∧ Rep W g' (.exc k fs) (.ref a) := by
  let o1 := L2.exo a C (some dx)
  let o2 := L2.exd dx vs
  have t1 : To W g H s (g.new a o1) (L2.upd H a o1) s := to_new r ha
  have hd2 : L2.upd H a o1 dx = none := by rw [L2.upd_ne ne]; exact hd
  have t2 : To W (g.new a o1) (L2.upd H a o1) s ((g.new a o1).new dx o2) (L2.upd (L2.upd H a o1) dx o2) s := to_new t1.st hd2
  refine ⟨_, t1.trans t2, .exc c ?_ new_at (q.up (t1.trans t2).ext)⟩
  exact t2.ext.G _ _ new_at
end
section
variable {X : L2.Cx} {W : Wr} {C fI cda cc : Addr} {B newId initId : String} {bmB : List Value} {k qual : Str} {par : Option Str} {fd : FuncData} {scope : Scope} {P : Str → Option (Option Str)}
theorem new_ok (T : XT X.K C fI B newId initId bmB) (I : IT X.prog X.K fI C k par fd qual scope cda cc) (np : takerIn X.K C "code" = some none) (npp : ∀ p, par = some p → takerIn X.K C p = some none) (hsk : nsIn X.K mainGlobals "super" = some none) (hP : P k = some par) (hW : W.exc k = some C) (hne : par ≠ some ("code" : Str)) (hr : L2.Room 2 X.A) :
    NewOk X W P k C := by
  have key : ∀ (pins : List (Addr × Obj)) (sh : Shared) (σ : L2.St) (H : L2.Hp) (Q : L2.VK) (g : Gh) (s : S) (d' : D) (args : List Value) (kw : List (Str × Value)) (fs : List (Str × D)) (vs : List (Str × L2.V)), L2.Inv X pins σ H sh → SR W g H s → d' = .exc k fs → RepF W g fs vs → Ret W g s d' H Q →
      ((par = none ∧ args = [] ∧ kw = []) ∨ ∃ p u, par = some p ∧ ((args = [u] ∧ kw = []) ∨ (args = [] ∧ kw = [(p, u)]))) →
      (∀ tc, ∀ f, L2.RelO (vs.lookup f) (mkD par (args ++ kw.map (fun q => q.2)) k tc f)) →
      wpAny (model X.prog X.w) X.A (call (.ref C) args kw) (L2.EP X pins σ Q) X.xe sh := by
    intro pins sh σ H Q g s d' args kw fs vs J r ed q ret hk rel
    have KX := J.kIn
    have bk : ∀ b o, X.base.get? b = some o → sh.heap.get? b = some o := fun b o e => (J.bs b o e).1
    obtain ⟨mb, hb1, hb2⟩ := J.ok.mod.blt
    have nl := J.nolimit
    have hs : X.mg "super" = none := mg_none_of J.ok.mod.kin J.ok.mod.glob hsk
    obtain ⟨nm, N', qn, bs, bm, hdct, sn, sub, ab, col, dd, k0, k1, k2, k3, k5, hC, hT⟩ := excInit_of KX T.i
    have xc : XC sh.heap C B newId initId bmB := ⟨T.b.F, nm, qn, N', bs, bm, hdct, sn, sub, ab, col, dd, k0, k1, k2, k3, k5, hC, hT⟩
    obtain ⟨hp, g0, dr, tk, os⟩ := sh
    refine xc_call (fI := fI) xc ?_ (looks_findIn KX T.f) (fun self => bind_fn KX self T.ft) ?_
    · rcases hk with ⟨_, rfl, _⟩ | ⟨p, u, _, ⟨rfl, _⟩ | ⟨rfl, _⟩⟩ <;> (rw [sizeLine_eq]; show _ ≤ 16777216; simp)
    · refine init_run (mg := X.mg) (mb := mb) T I KX nl (J.ok.mod.glob.keeps bk) hs (hb1.keeps bk) (hb2 _ (by decide)) ?_ np npp hk fun h' tk' dx t1 tc M => ?_
      · have z := hr.dp
        show X.A.depth + 1 < recursionLimit
        omega
      · have dn : H dx = none := J.hok.fresh M.dbig
        have an : H (hp.objs.size + 1) = none := J.hok.fresh (Nat.le_succ _)
        have J2 := lay_two (t' := tk') (fs := vs) J M.keep (Nat.le_succ _) M.dbig M.dne M.obj M.ns (rel tc)
        obtain ⟨g', T1, R1⟩ := exc_to r an dn M.dne hW q
        subst ed
        exact ⟨rfl, L2.V.ref (hp.objs.size + 1), _, J2, (show Value.ref _ = Value.ref _ from rfl), ret g' _ _ T1 R1⟩
  have rel1 : ∀ (p : Str) (v : L2.V) (u : Value) (tc : Tok), L2.RelV v u → p ≠ "code" → ∀ f, L2.RelO (([(p, v), (("code" : Str), L2.V.str k)] : List (Str × L2.V)).lookup f) (if f = p then some u else if f = "code" then some (.str k tc) else none) := by
    intro p v u tc rv ne f
    have z := L2.relO_put (f := p) (fs := [(("code" : Str), L2.V.str k)]) (mA := fun y => if y = "code" then some (.str k tc) else none) rv (fun y => L2.relO_put (f := "code") (fs := []) (mA := fun _ => none) (y := .str k) (u := .str k tc) ⟨tc, rfl⟩ (fun _ => trivial) y) f
    exact z
  have rel0 : ∀ (tc : Tok), ∀ f, L2.RelO (([(("code" : Str), L2.V.str k)] : List (Str × L2.V)).lookup f) (if f = "code" then some (.str k tc) else none) := fun tc f =>
    L2.relO_put (f := "code") (fs := []) (mA := fun _ => none) (y := .str k) (u := .str k tc) ⟨tc, rfl⟩ (fun _ => trivial) f
  constructor
  · intro pins sh σ H v u Q ks g s d d' J rv r q e ret
    cases par with
    | none =>
      unfold newD at e
      rw [hP] at e
      cases e
    | some p =>
      unfold newD at e
      rw [hP] at e
      cases e
      have pne : p ≠ "code" := fun z => hne (by rw [z])
      refine ⟨fun _ => ?_, fun p' hp' _ => ?_⟩
      · exact key pins sh σ H Q g s _ [u] [] _ [(p, v), ("code", .str k)] J r rfl (.cons q (.cons (.str k) .nil)) ret (.inr ⟨p, u, rfl, .inl ⟨rfl, rfl⟩⟩) fun tc f => rel1 p v u tc rv pne f
      · rw [hP] at hp'
        cases hp'
        exact key pins sh σ H Q g s _ [] [(p, u)] _ [(p, v), ("code", .str k)] J r rfl (.cons q (.cons (.str k) .nil)) ret (.inr ⟨p, u, rfl, .inr ⟨rfl, rfl⟩⟩) fun tc f => rel1 p v u tc rv pne f
  · intro pins sh σ H Q g s d' J r e ret
    cases par with
    | some p =>
      unfold newD at e
      rw [hP] at e
      cases e
    | none =>
      unfold newD at e
      rw [hP] at e
      cases e
      exact key pins sh σ H Q g s _ [] [] _ [("code", .str k)] J r rfl (.cons (.str k) .nil) ret (.inl ⟨rfl, rfl, rfl⟩) fun tc f => rel0 tc f
end
end NM
end

section
set_option linter.all false
set_option maxHeartbeats 4000000
set_option maxRecDepth 100000
set_option autoImplicit false
/-! NM: what the top leaves, read off the heap. -/
namespace NM
open PySem PySem.W PySem.Calls PyProof.Rows
open He (ga ma)
/-- the names of a claim -/
structure HD where
  fn : List He.DefD
  mks : List (Str × Option Str)
  up : List Str
  free : List Str
  tab : Str → List Str
def HD.ex (d : HD) : List Str := d.mks.map (·.1) ++ d.up
def tyT : List (Str × String) := [("NoneType", "NoneType"), ("bool", "bool"), ("int", "int"), ("str", "str"), ("tuple", "tuple"), ("list", "list"), ("ValueError", "ValueError"), ("LookupError", "LookupError"), ("IndexError", "IndexError")]
def tyE : List (Str × String) := [("ValueError", "ValueError"), ("LookupError", "LookupError"), ("IndexError", "IndexError")]
/-! the Booleans -/
def xtB (K : Frag) (C fI : Addr) (newId initId B : String) (bmB : List Value) : Bool :=
  excInitIn K C bmB newId && (excOver K C bmB && (hasDictIn K C && (He.eqO (findIn K (.ref C) "__init__") (some (some (.ref fI))) && (decide (typeIn K (.ref fI) = some (.type "function")) &&
    (He.eqO (findIn K (.ref C) "__setattr__") (some (some (.builtin "object.__setattr__"))) && (He.eqO (ks_superIn K C C "__init__") (some (some (.builtin initId))) && (decide (subIn K (.ref C) (.type B) = some true) &&
      (decide (mroIn K C (.ref C) = some true) && ((clsIn K C).isSome && He.eqO (nsIn K cStatics "thirdparty.any") (some none))))))))))
def lastB (par : Option Str) : List Stmt → Bool
  | [] => decide (par = none)
  | [.Assign [.Attribute (.Name s _) p _] (.Name q _) _] => decide (s = "self") && (decide (par = some p) && decide (q = p))
  | _ => false
def bodyB (k : Str) (par : Option Str) : List Stmt → Bool
  | .Expr (.Call (.Attribute (.Call (.Name s _) [] [] _) i p3) [.Constant (.str k1) _ _] [] p5) _ :: .Assign [.Attribute (.Name s2 _) c _] (.Constant (.str k2) _ _) _ :: l =>
    decide (s = "super") && (decide (i = "__init__") && (decide (k1 = k) && (decide (s2 = "self") && (decide (c = "code") && (decide (k2 = k) && ((p3.endLine == p5.line) && lastB par l))))))
  | _ => false
def parB (par : Option Str) : Arguments → Bool
  | ⟨[], [a], none, [], [], none, []⟩ => decide (a.arg = "self") && decide (par = none)
  | ⟨[], [a, b], none, [], [], none, []⟩ => decide (a.arg = "self") && decide (par = some b.arg)
  | _ => false
def fileB (prog : Program) (K : Frag) (cda : Addr) : Bool := match K.lookup cda with
  | some ⟨_, _, .fields vs, _⟩ => (match (vs[2]? : Option Value) with
    | some (Value.str f _) => (prog.main.file : Str) == f
    | _ => false)
  | _ => false
def cellB (K : Frag) (cc C : Addr) : Bool := match K.lookup cc with
  | some ⟨_, _, .cell (some (.ref D)), _⟩ => decide (D = C)
  | _ => false
def fldL : List Str := ["given", "word", "at", "name", "number", "most", "line"]
def scP (par : Option Str) (sc : Scope) : Bool := match par with
  | some p => decide (sc.names.lookup p = some .local) && decide (p ∈ fldL)
  | none => true
def scB (par : Option Str) (sc : Scope) : Bool := decide (sc.kind = .function) && (!sc.isCoroutine && (!sc.isGenerator && ((sc.names.all fun y => y.2 != .cell) && (decide (sc.names.lookup ("self" : Str) = some .local) &&
  (scP par sc && (decide (sc.names.lookup ("__class__" : Str) = some .free) && decide (sc.names.lookup ("super" : Str) = some .globalImplicit)))))))
def funB (prog : Program) (K : Frag) (C : Addr) (k : Str) (par : Option Str) (fd : FuncData) : Bool := match fd.body, fd.closure, fd.defaults, fd.code with
  | .stmts body, [(nc, cc)], .none, .ref cda => decide (nc = "__class__") && (decide (fd.globals = mainGlobals) && (decide (fd.builtins = builtinsNs) && (codeIn K (.ref cda) fd.qualname && (bodyB k par body && (parB par fd.params && (fileB prog K cda &&
    (cellB K cc C && (scB par fd.scope && !(prog.main.scope.names.lookup ("super" : Str)).isSome))))))))
  | _, _, _, _ => false
def itB (prog : Program) (K : Frag) (fI C : Addr) (k : Str) (par : Option Str) : Bool := match K.lookup fI with
  | some ⟨_, _, .func fd, _⟩ => funB prog K C k par fd
  | _ => false
def noB (K : Frag) (C : Addr) (f : Str) : Bool := He.eqO (findIn K (.ref C) f) (some none)
def mkB (prog : Program) (K : Frag) (k : Str) (par : Option Str) : Bool :=
  (xtB K (ga K k) (ma K (ga K k) "__init__") "ValueError.__new__" "ValueError.__init__" "ValueError" [.type "ValueError", .type "Exception", .type "BaseException", .type "object"] ||
    (xtB K (ga K k) (ma K (ga K k) "__init__") "LookupError.__new__" "LookupError.__init__" "LookupError" [.type "LookupError", .type "Exception", .type "BaseException", .type "object"] ||
      xtB K (ga K k) (ma K (ga K k) "__init__") "IndexError.__new__" "IndexError.__init__" "IndexError" [.type "IndexError", .type "LookupError", .type "Exception", .type "BaseException", .type "object"])) &&
  (itB prog K (ma K (ga K k) "__init__") (ga K k) k par && (noB K (ga K k) "code" && (match par with
    | some p => noB K (ga K k) p
    | none => true)))
def exB (K : Frag) (k : Str) : Bool := He.eqO (nsIn K mainGlobals k) (some (some (.ref (ga K k)))) && (keepIn K (.ref (ga K k)) && (He.eqO (findIn K (.ref (ga K k)) "__getattribute__") (some (some (.builtin "BaseException.__getattribute__"))) && (noB K (ga K k) "__getattr__" &&
  (decide (subIn K (.ref (ga K k)) (.type "BaseException") = some true) && (hasDictIn K (ga K k) && (He.eqO (findIn K (.ref (ga K k)) "__class__") (some (some (.builtin "object.__class__"))) && decide (mroIn K (ga K k) (.type "object") = some true)))))))
def clB (K : Frag) : Bool := He.eqO (specialIn K (.builtin "object.__class__") "__get__") (some (some (.builtin "getset_descriptor.__get__"))) && decide (takesIn K (.builtin "object.__class__") = some true)
def isB (d : HD) (K : Frag) (t : Str) : Bool := (d.ex.all fun k => decide (kitOne K (.ref (ga K t)) (.ref (ga K k)) = some ((d.tab t).contains k))) && tyE.all fun q => decide (kitOne K (.ref (ga K t)) (.type q.2) = some ((d.tab t).contains q.1))
def allB (prog : Program) (d : HD) (K : Frag) : Bool :=
  (d.free.all fun x => He.eqO (nsIn K mainGlobals x) (some none)) && (He.eqO (nsIn K mainGlobals "law") (some (some (.ref (ga K "law")))) && (clB K && ((d.ex.all fun k => exB K k) && ((d.mks.all fun q => mkB prog K q.1 q.2) && ((d.ex.all fun t => isB d K t) &&
    d.fn.all fun f => f.ok K && He.eqO (nsIn K mainGlobals f.name) (some (some (.ref (ga K f.name)))))))))
/-! the Hook -/
def adN (g : Addr → Option Obj) : List Addr := cStatics :: He.asD g 4
def obsN (prog : Program) (d : HD) (g : Addr → Option Obj) : He.AlD := (allB prog d (He.frG g (adN g)), d.fn.map fun f => He.fnW (He.frG g (adN g)) f.at_)
structure SaysN (prog : Program) (d : HD) (K : Frag) : Prop where
  b : allB prog d K = true
  f : (d.fn.map fun f => He.fnW K f.at_) = d.fn.map He.DefD.val
def hookN (prog : Program) (d : HD) : Hook where
  α := He.AlD
  obs := fun s => obsN prog d s.heap.get?
  val := fun _ => (true, d.fn.map He.DefD.val)
  says := fun _ h => ∃ K : Frag, K.In h ∧ SaysN prog d K
  of := fun _ s e => ⟨_, He.frG_in, ⟨congrArg (fun z : He.AlD => z.1) e, congrArg (fun z : He.AlD => z.2) e⟩⟩
  keeps := fun _ _ _ ⟨K, hK, c⟩ k => ⟨K, Frag.In.keeps hK k, c⟩
theorem obsN_eq {prog : Program} {d : HD} {g : Addr → Option Obj} {s : Shared} (h : ∀ a, g a = s.heap.get? a) : obsN prog d g = (hookN prog d).obs s := by
  have e : g = s.heap.get? := funext h
  subst e
  rfl
end NM
end

section
set_option linter.all false
set_option maxHeartbeats 4000000
set_option maxRecDepth 100000
set_option autoImplicit false
/-! NM: the facts, from what is read off the heap. -/
namespace NM
open PySem PySem.W PySem.Calls PyProof.Rows
open He (ga ma ba eqO_ok)
section
variable {prog : Program} {K : Frag} {C fI : Addr} {B newId initId : String} {bmB : List Value} {k : Str} {par : Option Str}
theorem xtB_ok (b : BaseOk B newId initId bmB) (h : xtB K C fI newId initId B bmB = true) : XT K C fI B newId initId bmB := by
  unfold xtB at h
  obtain ⟨h1, h⟩ := ba h
  obtain ⟨h2, h⟩ := ba h
  obtain ⟨h3, h⟩ := ba h
  obtain ⟨h4, h⟩ := ba h
  obtain ⟨h5, h⟩ := ba h
  obtain ⟨h6, h⟩ := ba h
  obtain ⟨h7, h⟩ := ba h
  obtain ⟨h8, h⟩ := ba h
  obtain ⟨h9, h⟩ := ba h
  obtain ⟨h10, h11⟩ := ba h
  exact ⟨b, h1, h2, h3, eqO_ok h4, of_decide_eq_true h5, eqO_ok h6, eqO_ok h7, of_decide_eq_true h8, of_decide_eq_true h9, h10, eqO_ok h11⟩
theorem lastB_ok {l : List Stmt} (h : lastB par l = true) : (par = none ∧ l = []) ∨ ∃ p r1 r2 r3 r4, par = some p ∧ l = [.Assign [.Attribute (.Name "self" r1) p r2] (.Name p r3) r4] := by
  unfold lastB at h
  split at h
  · exact .inl ⟨of_decide_eq_true h, rfl⟩
  · obtain ⟨h1, h⟩ := ba h
    obtain ⟨h2, h3⟩ := ba h
    cases of_decide_eq_true h1
    cases of_decide_eq_true h3
    exact .inr ⟨_, _, _, _, _, of_decide_eq_true h2, rfl⟩
  · cases h
theorem bodyB_ok {body : List Stmt} (h : bodyB k par body = true) : ∃ p1 p2 p3 p4 p5 p6 q1 q2 q3 q4 j1 j2, ∃ l : List Stmt, body = .Expr (.Call (.Attribute (.Call (.Name "super" p1) [] [] p2) "__init__" p3) [.Constant (.str k) j1 p4] [] p5) p6 :: .Assign [.Attribute (.Name "self" q1) "code" q2] (.Constant (.str k) j2 q3) q4 :: l ∧ (p3.endLine == p5.line) = true ∧
      ((par = none ∧ l = []) ∨ ∃ p r1 r2 r3 r4, par = some p ∧ l = [.Assign [.Attribute (.Name "self" r1) p r2] (.Name p r3) r4]) := by
  unfold bodyB at h
  split at h
  · obtain ⟨h1, h⟩ := ba h
    obtain ⟨h2, h⟩ := ba h
    obtain ⟨h3, h⟩ := ba h
    obtain ⟨h4, h⟩ := ba h
    obtain ⟨h5, h⟩ := ba h
    obtain ⟨h6, h⟩ := ba h
    obtain ⟨h7, h8⟩ := ba h
    cases of_decide_eq_true h1
    cases of_decide_eq_true h2
    cases of_decide_eq_true h3
    cases of_decide_eq_true h4
    cases of_decide_eq_true h5
    cases of_decide_eq_true h6
    exact ⟨_, _, _, _, _, _, _, _, _, _, _, _, _, rfl, h7, lastB_ok h8⟩
  · cases h
theorem parB_ok {a : Arguments} (h : parB par a = true) : ∃ a1 n1 P1, a1 = ("self" : Str) ∧ ((par = none ∧ a = { posonlyargs := [], args := [⟨a1, n1, P1⟩], vararg := none, kwonlyargs := [], kw_defaults := [], kwarg := none, defaults := [] }) ∨
      ∃ p n2 P2, par = some p ∧ a = { posonlyargs := [], args := [⟨a1, n1, P1⟩, ⟨p, n2, P2⟩], vararg := none, kwonlyargs := [], kw_defaults := [], kwarg := none, defaults := [] }) := by
  unfold parB at h
  split at h
  · rename_i a1
    obtain ⟨h1, h2⟩ := ba h
    obtain ⟨x, y, z⟩ := a1
    exact ⟨x, y, z, of_decide_eq_true h1, .inl ⟨of_decide_eq_true h2, rfl⟩⟩
  · rename_i a1 b1
    obtain ⟨h1, h2⟩ := ba h
    obtain ⟨x, y, z⟩ := a1
    obtain ⟨x2, y2, z2⟩ := b1
    exact ⟨x, y, z, of_decide_eq_true h1, .inr ⟨x2, y2, z2, of_decide_eq_true h2, rfl⟩⟩
  · cases h
theorem fileB_ok {cda : Addr} (h : fileB prog K cda = true) : ∃ ccl cdd vs ccs file tf, K.lookup cda = some ⟨ccl, cdd, .fields vs, ccs⟩ ∧ vs[2]? = some (.str file tf) ∧ ((prog.main.file : Str) == file) = true := by
  unfold fileB at h
  split at h
  · rename_i e1
    split at h
    · rename_i e2
      exact ⟨_, _, _, _, _, _, e1, e2, h⟩
    · cases h
  · cases h
theorem cellB_ok {cc : Addr} (h : cellB K cc C = true) : ∃ cl cld csl, K.lookup cc = some ⟨cl, cld, .cell (some (.ref C)), csl⟩ := by
  unfold cellB at h
  split at h
  · rename_i e
    cases of_decide_eq_true h
    exact ⟨_, _, _, e⟩
  · cases h
theorem funB_ok {fd : FuncData} {oc : Value} {od : Option Addr} {osl : Array (Option Value)} (lk : K.lookup fI = some ⟨oc, od, .func fd, osl⟩) (h : funB prog K C k par fd = true) : ∃ fd qual scope cda cc, IT prog K fI C k par fd qual scope cda cc := by
  obtain ⟨name, qual, params, bd, scope, gl, cl, dV, kV, doc, pm, an, cdv, ct, bl⟩ := fd
  unfold funB at h
  split at h
  · rename_i body nc cc cda e1 e2 e3 e4
    obtain ⟨h1, h⟩ := ba h
    obtain ⟨h2, h⟩ := ba h
    obtain ⟨h3, h⟩ := ba h
    obtain ⟨h4, h⟩ := ba h
    obtain ⟨h5, h⟩ := ba h
    obtain ⟨h6, h⟩ := ba h
    obtain ⟨h7, h⟩ := ba h
    obtain ⟨h8, h⟩ := ba h
    obtain ⟨h9, h10⟩ := ba h
    unfold scB at h9
    obtain ⟨s1, h9⟩ := ba h9
    obtain ⟨s2, h9⟩ := ba h9
    obtain ⟨s3, h9⟩ := ba h9
    obtain ⟨s4, h9⟩ := ba h9
    obtain ⟨s5, h9⟩ := ba h9
    obtain ⟨s6, h9⟩ := ba h9
    obtain ⟨s7, s8⟩ := ba h9
    have g1 := of_decide_eq_true h1
    have g2 := of_decide_eq_true h2
    have g3 := of_decide_eq_true h3
    dsimp only at e1 e2 e3 e4 g1 g2 g3
    subst g1 g2 g3 e1 e2 e3 e4
    refine ⟨_, qual, scope, cda, cc, ⟨_, _, _, lk⟩, h4, ⟨name, params, body, kV, doc, pm, an, ct, rfl, bodyB_ok h5, parB_ok h6⟩, fileB_ok h7, cellB_ok h8, of_decide_eq_true s1, by simpa using s2, by simpa using s3, s4, of_decide_eq_true s5, fun p hp => ?_, of_decide_eq_true s7, of_decide_eq_true s8, by simpa using h10⟩
    subst hp
    obtain ⟨z1, z2⟩ := ba s6
    exact ⟨of_decide_eq_true z1, of_decide_eq_true z2⟩
  · cases h
theorem itB_ok (h : itB prog K fI C k par = true) : ∃ fd qual scope cda cc, IT prog K fI C k par fd qual scope cda cc := by
  unfold itB at h
  split at h
  · rename_i lk
    exact funB_ok lk h
  · cases h
theorem mkB_ok (h : mkB prog K k par = true) : ∃ (B newId initId : String) (bmB : List Value) (fI : Addr) (fd : FuncData) (qual : Str) (scope : Scope) (cda cc : Addr), XT K (ga K k) fI B newId initId bmB ∧ IT prog K fI (ga K k) k par fd qual scope cda cc ∧ L2.NoAttr K (ga K k) "code" ∧ ∀ p, par = some p → L2.NoAttr K (ga K k) p := by
  unfold mkB at h
  obtain ⟨h1, h⟩ := ba h
  obtain ⟨h2, h⟩ := ba h
  obtain ⟨h3, h4⟩ := ba h
  obtain ⟨fd, qual, scope, cda, cc, it⟩ := itB_ok h2
  have t1 : L2.NoAttr K (ga K k) "code" := eqO_ok h3
  have t2 : ∀ p, par = some p → L2.NoAttr K (ga K k) p := fun p hp => by
    subst hp
    exact eqO_ok h4
  rcases Bool.or_eq_true_iff.mp h1 with z | z
  · exact ⟨_, _, _, _, _, fd, qual, scope, cda, cc, xtB_ok base_value z, it, t1, t2⟩
  · rcases Bool.or_eq_true_iff.mp z with z | z
    · exact ⟨_, _, _, _, _, fd, qual, scope, cda, cc, xtB_ok base_lookup z, it, t1, t2⟩
    · exact ⟨_, _, _, _, _, fd, qual, scope, cda, cc, xtB_ok base_index z, it, t1, t2⟩
end
/-! the plain side's tables -/
def wrD (d : HD) (K : Frag) : Wr := ⟨K, fun k => tyT.lookup k, fun _ => none, fun k => if d.ex.contains k = true then some (ga K k) else none⟩
def tyP : List Str := ["NoneType", "bool", "int", "str", "tuple", "list"]
def tyQ : List Str := ["int", "bool", "str", "list", "tuple"]
def tyR : List Str := ["ValueError", "LookupError", "IndexError"]
def basic (t k : Str) : Bool := t == k || (t == "bool" && k == "int")
def subD (d : HD) (t k : Str) : Option Bool :=
  if (tyP.contains t && tyQ.contains k) = true then some (basic t k) else if (d.ex.contains t && (d.ex.contains k || tyR.contains k)) = true then some ((d.tab t).contains k) else none
theorem basic_ok {K : Frag} {t k : Str} {T U : String} (ht : tyP.contains t = true) (hk : tyQ.contains k = true) (h1 : tyT.lookup t = some T) (h2 : tyT.lookup k = some U) : kitOne K (.type T) (.type U) = some (basic t k) := by
  have ht' : t ∈ tyP := List.contains_iff_mem.mp ht
  have hk' : k ∈ tyQ := List.contains_iff_mem.mp hk
  simp only [tyP, tyQ, List.mem_cons, List.not_mem_nil, or_false] at ht' hk'
  rcases ht' with rfl | rfl | rfl | rfl | rfl | rfl <;> rcases hk' with rfl | rfl | rfl | rfl | rfl <;> (cases h1; cases h2; kernel_rfl)
end NM
end

section
set_option linter.all false
set_option maxHeartbeats 4000000
set_option maxRecDepth 100000
set_option autoImplicit false
/-! NM: the facts, joined. -/
namespace NM
open PySem PySem.W PySem.Calls PyProof.Rows
open He (ga ma ba eqO_ok)
/-- a def of the table, told -/
structure DfOk (d : HD) (cc : CC) (f : Str) (F : Fn) : Prop where
  ex : ∃ dd ∈ d.fn, dd.at_ = (f, none) ∧ dd.name = f ∧ dd.dfl = [] ∧ dd.kwd = [] ∧ ∃ (N ps : List Str) (rf : Bool) (fuel : Nat), L2.FnScope N ps dd.scope ∧ cSs cc rf fuel ⟨N, dd.scope⟩ dd.body = some F.body ∧ F.n = N.length ∧ F.ps = ps.length ∧
    ∀ (kV doc pm : Value) (an : Option Addr) (cdv ct : Value) (us : List Value), us.length = ps.length → bindArgs (fnOf f dd.qual dd.params dd.body dd.scope .none kV doc pm an cdv ct) ⟨us, []⟩ = pure (ps.zip us)
/-- what is asked of the plain program -/
structure PrgOk (d : HD) (P : Prg) (cc : CC) : Prop where
  con : ∀ n, P.con n = none
  par : ∀ f, P.par f = d.mks.lookup f
  sub : ∀ t k b, P.sub t k = some b → subD d t k = some b
  fld : ∀ k f, P.fld k f = true → ∃ p, d.mks.lookup k = some p ∧ (f = "code" ∨ p = some f)
  free : ∀ n : Str, n ∈ (["len", "int", "abs", "list", "max", "all", "isinstance", "range", "enumerate", "zip", "super", "bool", "str", "tuple", "ValueError", "LookupError", "IndexError"] : List Str) → d.free.contains n = true
  ncode : ∀ k, d.mks.lookup k ≠ some (some ("code" : Str))
  names : ∀ k, d.ex.contains k = true → tyT.lookup k = none ∧ k ≠ "super"
  defs : ∀ f F, P.fn f = some F → DfOk d cc f F
  cls : ∀ k, cc.cls.contains k = true → d.ex.contains k = true ∨ k ∈ tySame
  exs : ∀ f p, cc.exs.lookup f = some p → P.par f = some p
section
variable {prog : Program} {w : World} {K : Frag} {mg : Str → Option Value} {h : Heap} {d : HD} {P : Prg} {cc : CC}
theorem same_ty : ∀ k ∈ tySame, ∃ T, tyT.lookup k = some T := by
  intro k hk
  simp only [tySame, List.mem_cons, List.not_mem_nil, or_false] at hk
  rcases hk with rfl | rfl | rfl | rfl | rfl | rfl | rfl | rfl <;> exact ⟨_, rfl⟩
theorem lookup_mem {α : Type} {k : Str} {v : α} : ∀ {l : List (Str × α)}, l.lookup k = some v → (k, v) ∈ l
  | [], e => by simp at e
  | (x, u) :: r, e => by
    rw [List.lookup_cons] at e
    split at e
    · rename_i q
      cases e
      rw [beq_iff_eq.mp q]
      exact List.mem_cons_self ..
    · exact List.mem_cons_of_mem _ (lookup_mem e)
theorem facts_of (c : SaysN prog d K) (X : K.In h) (G : h.Ns mainGlobals mg) (O : PrgOk d P cc) : Facts prog w K mg (wrD d K) P cc := by
  have cb := c.b
  unfold allB at cb
  obtain ⟨b1, cb⟩ := ba cb
  obtain ⟨b2, cb⟩ := ba cb
  obtain ⟨b3, cb⟩ := ba cb
  obtain ⟨b4, cb⟩ := ba cb
  obtain ⟨b5, cb⟩ := ba cb
  obtain ⟨b6, b7⟩ := ba cb
  unfold clB at b3
  obtain ⟨b8, b9⟩ := ba b3
  have free : ∀ n : Str, n ∈ (["len", "int", "abs", "list", "max", "all", "isinstance", "range", "enumerate", "zip", "super", "bool", "str", "tuple", "ValueError", "LookupError", "IndexError"] : List Str) → mg n = none := fun n hn =>
    mg_none_of X G (eqO_ok (List.all_eq_true.mp b1 n (List.contains_iff_mem.mp (O.free n hn))))
  have exW : ∀ k C, (wrD d K).exc k = some C → k ∈ d.ex ∧ C = ga K k := fun k C e => by
    have e' : (if d.ex.contains k = true then some (ga K k) else none) = some C := e
    split at e'
    · rename_i z
      cases e'
      exact ⟨List.contains_iff_mem.mp z, rfl⟩
    · cases e'
  have exF : ∀ k, k ∈ d.ex → mg k = some (.ref (ga K k)) ∧ keepIn K (.ref (ga K k)) = true ∧ L2.ExcC K (ga K k) := fun k hk => by
    have z := List.all_eq_true.mp b4 k hk
    unfold exB at z
    obtain ⟨z1, z⟩ := ba z
    obtain ⟨z2, z⟩ := ba z
    obtain ⟨z3, z⟩ := ba z
    obtain ⟨z4, z⟩ := ba z
    obtain ⟨z5, z⟩ := ba z
    obtain ⟨z6, z⟩ := ba z
    obtain ⟨z7, z8⟩ := ba z
    exact ⟨mg_of X G (eqO_ok z1), z2, eqO_ok z3, eqO_ok z4, of_decide_eq_true z5, z6, eqO_ok z7, eqO_ok b8, of_decide_eq_true b9, of_decide_eq_true z8⟩
  have wexc : ∀ k, k ∈ d.ex → (wrD d K).exc k = some (ga K k) := fun k hk => if_pos (List.contains_iff_mem.mpr hk)
  have cvE : ∀ k, k ∈ d.ex → cv (wrD d K) k = some (.ref (ga K k), .ref (ga K k)) := fun k hk => by
    have z : (wrD d K).ty k = none := (O.names k (List.contains_iff_mem.mpr hk)).1
    unfold cv
    rw [z]
    show ((wrD d K).exc k).map _ = _
    rw [wexc k hk]
    rfl
  have cvT : ∀ k T, tyT.lookup k = some T → cv (wrD d K) k = some (.ty T, .type T) := fun k T e => by
    have z : (wrD d K).ty k = some T := e
    unfold cv
    rw [z]
  have mkM : ∀ f p, d.mks.lookup f = some p → f ∈ d.ex ∧ mkB prog K f p = true := fun f p e => by
    have m := lookup_mem e
    refine ⟨List.mem_append_left _ (List.mem_map_of_mem (f := (·.1)) m), ?_⟩
    exact List.all_eq_true.mp b5 (f, p) m
  exact {
    eK := rfl
    con := fun n x e => by rw [O.con] at e; cases e
    free := fun n hn => free n (by
      simp only [List.mem_cons, List.not_mem_nil, or_false] at hn ⊢
      rcases hn with rfl | rfl | rfl | rfl | rfl | rfl | rfl | rfl | rfl | rfl <;> simp)
    new := fun f hf => by
      obtain ⟨p, hp⟩ := Option.isSome_iff_exists.mp hf
      have hp' := hp
      rw [O.par] at hp'
      obtain ⟨m1, m2⟩ := mkM f p hp'
      obtain ⟨e1, e2, _⟩ := exF f m1
      obtain ⟨B, newId, initId, bmB, fI, fd, qual, scope, cda, cc', xt, it, t1, t2⟩ := mkB_ok m2
      refine ⟨ga K f, e1, e2, fun X' q1 q2 q3 q4 => ?_⟩
      subst q1 q3
      have hsk : nsIn X'.K mainGlobals "super" = some none := eqO_ok (List.all_eq_true.mp b1 "super" (List.contains_iff_mem.mp (O.free "super" (by simp))))
      exact new_ok xt it t1.taker (fun p hp => (t2 p hp).taker) hsk hp (wexc f m1) (fun z => O.ncode f (by rw [hp', z])) q4
    insF := fun k C f e _ => by cases e
    excF := fun k C f e hf => by
      obtain ⟨h1, rfl⟩ := exW k C e
      obtain ⟨_, _, e3⟩ := exF k h1
      refine ⟨?_, e3⟩
      obtain ⟨p, hp, hf⟩ := O.fld k f hf
      obtain ⟨_, _, _, _, _, _, _, _, _, _, _, _, t1, t2⟩ := mkB_ok (mkM k p hp).2
      rcases hf with rfl | rfl
      · exact t1
      · exact t2 f rfl
    bty := fun k T hk => by
      simp only [List.mem_cons, List.not_mem_nil, or_false, Prod.mk.injEq] at hk
      rcases hk with ⟨rfl, rfl⟩ | ⟨rfl, rfl⟩ | ⟨rfl, rfl⟩ | ⟨rfl, rfl⟩ | ⟨rfl, rfl⟩ | ⟨rfl, rfl⟩ <;> rfl
    insC := fun k C e => by cases e
    excC := fun k C e => by
      obtain ⟨h1, rfl⟩ := exW k C e
      exact ⟨(O.names k (List.contains_iff_mem.mpr h1)).1, rfl, (exF k h1).2.2⟩
    isi := fun t k b p q hb hp hq => by
      have z := O.sub t k b hb
      unfold subD at z
      split at z
      · rename_i y
        obtain ⟨y1, y2⟩ := ba y
        cases z
        have g1 : ∃ T, tyT.lookup t = some T := by
          have y1' := List.contains_iff_mem.mp y1
          simp only [tyP, List.mem_cons, List.not_mem_nil, or_false] at y1'
          rcases y1' with rfl | rfl | rfl | rfl | rfl | rfl <;> exact ⟨_, rfl⟩
        have g2 : ∃ T, tyT.lookup k = some T := by
          have y2' := List.contains_iff_mem.mp y2
          simp only [tyQ, List.mem_cons, List.not_mem_nil, or_false] at y2'
          rcases y2' with rfl | rfl | rfl | rfl | rfl <;> exact ⟨_, rfl⟩
        obtain ⟨T, g1⟩ := g1
        obtain ⟨U, g2⟩ := g2
        rw [cvT t T g1] at hp
        rw [cvT k U g2] at hq
        cases hp
        cases hq
        exact basic_ok y1 y2 g1 g2
      · split at z
        · rename_i y
          obtain ⟨y1, y2⟩ := ba y
          cases z
          have m1 := List.contains_iff_mem.mp y1
          have ib := List.all_eq_true.mp b6 t m1
          unfold isB at ib
          obtain ⟨i1, i2⟩ := ba ib
          rw [cvE t m1] at hp
          cases hp
          rcases Bool.or_eq_true_iff.mp y2 with y2 | y2
          · have m2 := List.contains_iff_mem.mp y2
            rw [cvE k m2] at hq
            cases hq
            exact of_decide_eq_true (List.all_eq_true.mp i1 k m2)
          · have m2 := List.contains_iff_mem.mp y2
            simp only [tyR, List.mem_cons, List.not_mem_nil, or_false] at m2
            rcases m2 with rfl | rfl | rfl
            · rw [cvT _ "ValueError" rfl] at hq
              cases hq
              exact of_decide_eq_true (List.all_eq_true.mp i2 (("ValueError" : Str), "ValueError") (by decide))
            · rw [cvT _ "LookupError" rfl] at hq
              cases hq
              exact of_decide_eq_true (List.all_eq_true.mp i2 (("LookupError" : Str), "LookupError") (by decide))
            · rw [cvT _ "IndexError" rfl] at hq
              cases hq
              exact of_decide_eq_true (List.all_eq_true.mp i2 (("IndexError" : Str), "IndexError") (by decide))
        · cases z
    clsG := fun k p e => by
      unfold cv at e
      constructor
      · intro z
        rw [z] at e
        have e' : ((wrD d K).exc k).map (fun C => ((L2.V.ref C, Value.ref C) : L2.V × Value)) = some p := e
        cases q : (wrD d K).exc k with
        | none => rw [q] at e'; cases e'
        | some C =>
          rw [q] at e'
          cases e'
          obtain ⟨h1, rfl⟩ := exW k C q
          exact (exF k h1).1
      · intro T z hk
        have z' : tyT.lookup k = some T := z
        refine ⟨free k (by
          simp only [List.mem_cons, List.not_mem_nil, or_false] at hk ⊢
          rcases hk with rfl | rfl | rfl | rfl | rfl | rfl | rfl | rfl <;> simp), ?_⟩
        simp only [List.mem_cons, List.not_mem_nil, or_false] at hk
        rcases hk with rfl | rfl | rfl | rfl | rfl | rfl | rfl | rfl <;> (cases z'; rfl)
    defs := fun f F hf => by
      obtain ⟨dd, hdd, a1, a2, a3, a4, N, ps, rf, fuel, sc, cs, en, ep, bnd⟩ := (O.defs f F hf).ex
      have z := List.all_eq_true.mp b7 dd hdd
      obtain ⟨z1, z2⟩ := ba z
      have ef : He.fnW K dd.at_ = dd.val := by
        obtain ⟨i, hi, e⟩ := List.mem_iff_getElem.mp hdd
        have q : (d.fn.map fun f => He.fnW K f.at_)[i]? = (d.fn.map He.DefD.val)[i]? := by rw [c.f]
        rw [List.getElem?_map, List.getElem?_map, List.getElem?_eq_getElem hi, e] at q
        exact Option.some.inj q
      obtain ⟨fd, FD⟩ := He.DefD.funD ef z1
      have ea : He.fAd K dd.at_ = ga K f := by rw [a1]; rfl
      have ed : dd.dvs K = [] := by unfold He.DefD.dvs; rw [a3]; rfl
      have ek : dd.kws K = [] := by unfold He.DefD.kws; rw [a4]; rfl
      rw [ea, ed, ek, a2] at FD
      have hm : mg f = some (.ref (ga K f)) := by
        have := mg_of X G (eqO_ok z2)
        rw [a2] at this
        exact this
      exact ⟨ga K f, fd, ps, hm, FD.kp, FD.bindsN bnd, ep, N, dd.params, dd.body, dd.scope, rf, fuel, dd.qual, [], [], FD, sc, cs, en⟩
    clsN := fun k hk => by
      rcases O.cls k hk with z | z
      · have m := List.contains_iff_mem.mp z
        exact ⟨⟨_, cvE k m⟩, .inl (O.names k z).1⟩
      · obtain ⟨T, e⟩ := same_ty k z
        exact ⟨⟨_, cvT k T e⟩, .inr z⟩
    subN := fun t k b hb => by
      have z := O.sub t k b hb
      unfold subD at z
      split at z
      · rename_i y
        obtain ⟨y1, y2⟩ := ba y
        have y1' := List.contains_iff_mem.mp y1
        simp only [tyP, List.mem_cons, List.not_mem_nil, or_false] at y1'
        rcases y1' with rfl | rfl | rfl | rfl | rfl | rfl <;> exact ⟨_, cvT _ _ rfl⟩
      · split at z
        · rename_i y
          obtain ⟨y1, y2⟩ := ba y
          exact ⟨_, cvE t (List.contains_iff_mem.mp y1)⟩
        · cases z
    exs := O.exs }
end
end NM
end

section
set_option linter.all false
set_option maxHeartbeats 4000000
set_option maxRecDepth 100000
set_option autoImplicit false
/-! NM: from the plain law to the claim. -/
namespace NM
open PySem PySem.W PySem.Calls PyProof.Rows
section
variable {prog : Program} {w : World} {K : Frag} {mg : Str → Option Value} {base : Heap} {k : Nat} {fA : Addr} {fd : FuncData} {ps : List Str} {sp : L2.Sp}
/-- a promise where no exception is let out -/
theorem ok_shut (F : L2.FnOk prog w K mg base (L2.CX prog w) k fA fd ps sp) : L2.FnOk prog w K mg base L2.CX0 k fA fd ps (fun vs H Q _ => sp vs H Q fun _ _ _ => False) := by
  refine ⟨fun vs H Q E h => F.len vs H Q _ h, fun A outer s H args us vs Q E hr he hb hv h => codeAny_mono (F.run A outer s H args us vs Q _ hr he hb hv h) fun r s' z => ?_⟩
  cases r with
  | error e =>
    obtain ⟨a, B, H', cls, d, _, _, _, _, _, _, _, q⟩ := z
    exact q.elim
  | ok fl =>
    cases fl with
    | ret u => exact z
    | next => exact z
    | brk => exact z
    | cont => exact z
end
theorem reps_int {W : Wr} {g : Gh} : ∀ ns : List Int, Reps W g (ns.map D.int) (ns.map L2.V.int)
  | [] => .nil
  | i :: ns => .cons (.int i) (reps_int ns)
theorem law_sp {W : Wr} {P : Prg} {n : Nat} {f : Str} {H : L2.Hp} {a : Addr} {ns : List Int} {s' : S} (hK : L2.SqL W.K H a (ns.map L2.V.int)) (h : run P n f [.scr (ns.map .int)] [] = .ok (.bl true) s') :
    spOf W (run P n f) 1 [.ref a] H (fun v _ => v = .bl true) fun _ _ _ => False := by
  refine ⟨⟨[], H⟩, [.scr (ns.map .int)], [], ⟨fun _ _ e => e, rfl, fun n m e => ?_, fun n k m p a e => ?_⟩, .cons (.scr hK (reps_int ns)) .nil, rfl, ?_⟩
  · simp at e
  · simp at e
  · rw [h]
    intro g' v H' _ r
    cases r
    rfl
/-- the law's def -/
structure LawD (d : HD) (cc : CC) (F : Fn) : Prop where
  ex : ∃ dd ∈ d.fn, dd.at_ = (("law" : Str), none) ∧ dd.name = ("law" : Str) ∧ dd.dfl = [] ∧ dd.kwd = [] ∧ ∃ (N : List Str) (rf : Bool) (fuel : Nat), L2.FnScope N ["_law_script"] dd.scope ∧ cSs cc rf fuel ⟨N, dd.scope⟩ dd.body = some F.body ∧ F.n = N.length ∧ F.ps = 1 ∧
    ∀ (kV doc pm : Value) (an : Option Addr) (cdv ct : Value) (us : List Value), us.length = (["_law_script"] : List Str).length → bindArgs (fnOf "law" dd.qual dd.params dd.body dd.scope .none kV doc pm an cdv ct) ⟨us, []⟩ = pure ((["_law_script"] : List Str).zip us)
theorem law_facts {prog : Program} {w : World} {K : Frag} {mg : Str → Option Value} {h : Heap} {d : HD} {P : Prg} {cc : CC} {F : Fn} {n : Nat} {fa : Addr} (c : SaysN prog d K) (X : K.In h) (G : h.Ns mainGlobals mg) (O : PrgOk d P cc) (hF : P.fn "law" = some F) (hL : LawD d cc F) (hfa : mg "law" = some (.ref fa))
    (law : ∀ ns : List Int, ∃ s', run P n "law" [.scr (ns.map .int)] [] = .ok (.bl true) s') :
    ∃ (K : Frag) (fd : FuncData) (sp : L2.Sp), K.In h ∧ (∀ (s : Shared) (u : Value), BindsTo s fd ⟨[u], []⟩ [(("_law_script" : Str), u)]) ∧
      (∀ (H : L2.Hp) (a : Addr) (ns : List Int), ns.length ≤ 63 → L2.Only H → L2.SqL K H a (ns.map L2.V.int) → sp [.ref a] H (fun v _ => v = .bl true) fun _ _ _ => False) ∧
      ∀ base : Heap, K.In base → base.Ns mainGlobals mg → L2.FnOk prog w K mg base L2.CX0 (n + 3) fa fd ["_law_script"] sp := by
  have FA := facts_of (w := w) c X G O
  obtain ⟨dd, hdd, a1, a2, a3, a4, N, rf, fuel, sc, cs, en, ep, bnd⟩ := hL.ex
  have cb := c.b
  unfold allB at cb
  obtain ⟨_, cb⟩ := He.ba cb
  obtain ⟨_, cb⟩ := He.ba cb
  obtain ⟨_, cb⟩ := He.ba cb
  obtain ⟨_, cb⟩ := He.ba cb
  obtain ⟨_, cb⟩ := He.ba cb
  obtain ⟨_, b7⟩ := He.ba cb
  have z := List.all_eq_true.mp b7 dd hdd
  obtain ⟨z1, z2⟩ := He.ba z
  have ef : He.fnW K dd.at_ = dd.val := by
    obtain ⟨i, hi, e⟩ := List.mem_iff_getElem.mp hdd
    have q : (d.fn.map fun f => He.fnW K f.at_)[i]? = (d.fn.map He.DefD.val)[i]? := by rw [c.f]
    rw [List.getElem?_map, List.getElem?_map, List.getElem?_eq_getElem hi, e] at q
    exact Option.some.inj q
  obtain ⟨fd, FD⟩ := He.DefD.funD ef z1
  have ea : He.fAd K dd.at_ = He.ga K "law" := by rw [a1]; rfl
  have ed : dd.dvs K = [] := by unfold He.DefD.dvs; rw [a3]; rfl
  have ek : dd.kws K = [] := by unfold He.DefD.kws; rw [a4]; rfl
  rw [ea, ed, ek, a2] at FD
  have hm : mg "law" = some (.ref (He.ga K "law")) := by
    have := mg_of X G (He.eqO_ok z2)
    rw [a2] at this
    exact this
  have e := hfa.symm.trans hm
  cases e
  have D0 : DefOk K mg cc "law" F (He.ga K "law") fd ["_law_script"] := ⟨hm, FD.kp, FD.bindsN bnd, ep, N, dd.params, dd.body, dd.scope, rf, fuel, dd.qual, [], [], FD, sc, cs, en⟩
  have bA := FD.bindsA (ps := ["_law_script"]) bnd
  refine ⟨K, fd, _, X, fun s u => bA s [u] rfl, fun H a ns hl _ hS => ?_, fun base KX BG => ok_shut (fn_all FA n "law" F _ fd ["_law_script"] hF D0)⟩
  obtain ⟨s', q⟩ := law ns
  exact law_sp hS q
end NM
end

section
set_option linter.all false
set_option maxHeartbeats 4000000
set_option maxRecDepth 100000
set_option autoImplicit false
/-! NM: the draws. -/
namespace NM.Dw
open PySem L2
def bStart : Ss := (.cons (.asg (.v 1) (.k (.int (4925)))) (.cons (.for (.v 2) (.seq (.slc (.v 0) .no (.k (.int (63))))) (.cons (.asg (.v 1) (.bin .Mod (.bi "int" (.cons (.bin .Add (.bin .Add (.bin .Mult (.v 1) (.k (.int (48017)))) (.bin .Mult (.bin .Mod (.bi "int" (.cons (.v 2) .nil)) (.k (.int (1000133)))) (.k (.int (911))))) (.k (.int (13)))) .nil)) (.k (.int (2147483587))))) .nil)) (.cons (.ret (.mlst (.cons (.bi "list" (.cons (.slc (.v 0) .no (.k (.int (63)))) .nil)) (.cons (.k (.int (0))) (.cons (.k (.int (0))) (.cons (.v 1) (.cons (.k (.int (0))) .nil))))))) .nil)))
def bPull : Ss := (.cons (.sub (.v 0) (.k (.int (4))) (.bin .Add (.idx (.v 0) (.k (.int (4)))) (.k (.int (1))))) (.cons (.ite (.and (.cmp .Eq (.idx (.v 0) (.k (.int (2)))) (.k (.int (0)))) (.cmp .Lt (.idx (.v 0) (.k (.int (1)))) (.bi "len" (.cons (.idx (.v 0) (.k (.int (0)))) .nil)))) (.cons (.asg (.v 2) (.idx (.idx (.v 0) (.k (.int (0)))) (.idx (.v 0) (.k (.int (1)))))) (.cons (.sub (.v 0) (.k (.int (1))) (.bin .Add (.idx (.v 0) (.k (.int (1)))) (.k (.int (1))))) (.cons (.ite (.cmp .GtE (.bi "abs" (.cons (.v 2) .nil)) (.bin .Pow (.k (.int (10))) (.k (.int (18))))) (.cons (.sub (.v 0) (.k (.int (2))) (.bi "abs" (.cons (.v 2) .nil))) .nil) (.cons (.sub (.v 0) (.k (.int (3))) (.bin .Mod (.bi "int" (.cons (.bin .Add (.bin .Add (.bin .Mult (.idx (.v 0) (.k (.int (3)))) (.k (.int (41351)))) (.bin .Mult (.bin .Mod (.bi "int" (.cons (.v 2) .nil)) (.k (.int (1000133)))) (.k (.int (733))))) (.k (.int (37)))) .nil)) (.k (.int (2147483629))))) .nil)) .nil))) .nil) (.cons (.ite (.cmp .Gt (.idx (.v 0) (.k (.int (2)))) (.k (.int (0)))) (.cons (.asg (.v 3) (.bin .Mod (.bi "int" (.cons (.idx (.v 0) (.k (.int (2)))) .nil)) (.v 1))) (.cons (.sub (.v 0) (.k (.int (2))) (.bin .FloorDiv (.idx (.v 0) (.k (.int (2)))) (.v 1))) (.cons (.ret (.v 3)) .nil))) .nil) (.cons (.asg (.v 4) (.bin .Mod (.bi "int" (.cons (.bin .Add (.bin .Mult (.idx (.v 0) (.k (.int (3)))) (.idx (.v 0) (.k (.int (3))))) (.bin .Mult (.idx (.v 0) (.k (.int (4)))) (.k (.int (8311))))) .nil)) (.k (.int (2147483549))))) (.cons (.sub (.v 0) (.k (.int (3))) (.bin .Mod (.bi "int" (.cons (.bin .Add (.bin .Add (.bin .Mult (.v 4) (.k (.int (15991)))) (.bin .Mult (.idx (.v 0) (.k (.int (3)))) (.k (.int (60101))))) (.k (.int (54011)))) .nil)) (.k (.int (2147483629))))) (.cons (.ret (.bin .Mod (.bi "int" (.cons (.bin .FloorDiv (.idx (.v 0) (.k (.int (3)))) (.k (.int (64)))) .nil)) (.v 1))) .nil))))))
def bPick : Ss := (.cons (.ret (.idx (.v 1) (.call "_law_pull" (.cons (.v 0) (.cons (.bi "len" (.cons (.v 1) .nil)) .nil))))) .nil)
/-- a bag, as it stands -/
def bag (cells : List Int) (i r m t : Int) : S := [.lst [.lst (cells.map .int), .int i, .int r, .int m, .int t]]
structure BagOk (i r m t : Int) : Prop where
  i : 0 ≤ i
  r : 0 ≤ r
  m0 : 0 ≤ m
  m1 : m < 2147483648
def IsBag (s : S) : Prop := ∃ cells i r m t, s = bag cells i r m t ∧ BagOk i r m t
theorem eq_int (a b : Int) : eqD (.int a) (.int b) = some (decide (a = b)) := by
  show (if SeqAt.shaped (.int a) = true ∧ SeqAt.shaped (.int b) = true then some (PyData.eqv (.int a) (.int b)) else none) = _
  rw [if_pos ⟨rfl, rfl⟩]
  rfl
section
variable {α β : Type} {s : S} {ρ : Env} {a b d e f x : D}
theorem rb_ok {v : α} {k : α → S → R β} : R.bind (.ok v s) k = k v s := rfl
theorem ro_ok {v : α} {k : α → S → O} : R.out (.ok v s) k = k v s := rfl
theorem ob_nx {k : Env → S → O} : O.bind (.nx ρ s) k = k ρ s := rfl
theorem ob_rt {k : Env → S → O} : O.bind (.rt d s) k = .rt d s := rfl
theorem lift_some {v : α} : lift (some v) s = .ok v s := rfl
theorem ix5_0 : idxD (.lst [a, b, d, e, f]) (.int 0) = some a := rfl
theorem ix5_1 : idxD (.lst [a, b, d, e, f]) (.int 1) = some b := rfl
theorem ix5_2 : idxD (.lst [a, b, d, e, f]) (.int 2) = some d := rfl
theorem ix5_3 : idxD (.lst [a, b, d, e, f]) (.int 3) = some e := rfl
theorem ix5_4 : idxD (.lst [a, b, d, e, f]) (.int 4) = some f := rfl
theorem sb5_1 : subS [.lst [a, b, d, e, f]] (.ref 0) (.int 1) x = some [.lst [a, x, d, e, f]] := rfl
theorem sb5_2 : subS [.lst [a, b, d, e, f]] (.ref 0) (.int 2) x = some [.lst [a, b, x, e, f]] := rfl
theorem sb5_3 : subS [.lst [a, b, d, e, f]] (.ref 0) (.int 3) x = some [.lst [a, b, d, x, f]] := rfl
theorem sb5_4 : subS [.lst [a, b, d, e, f]] (.ref 0) (.int 4) x = some [.lst [a, b, d, e, x]] := rfl
theorem lk5 {l : List D} : look [.lst l] (.ref 0) = .lst l := rfl
theorem lk_i {i : Int} : look s (.int i) = .int i := rfl
theorem lk_l {l : List D} : look s (.lst l) = .lst l := rfl
theorem add_i {i j : Int} : binD .Add (.int i) (.int j) = some (.int (i + j)) := rfl
theorem bi_int {i : Int} : biD "int" [.int i] = some (.int i) := rfl
theorem bi_len {l : List D} : biD "len" [.lst l] = some (.int l.length) := rfl
theorem bi_abs {i : Int} : biD "abs" [.int i] = some (.int (if i < 0 then -i else i)) := rfl
theorem c_eq : cmpD .Eq a b = eqD a b := rfl
theorem c_lt {i j : Int} : cmpD .Lt (.int i) (.int j) = some (decide (i < j)) := rfl
theorem c_gt {i j : Int} : cmpD .Gt (.int i) (.int j) = some (decide (j < i)) := rfl
theorem c_ge {i j : Int} : cmpD .GtE (.int i) (.int j) = some (decide (j ≤ i)) := rfl
end
theorem ix_ok {cells : List Int} {i : Int} (h0 : 0 ≤ i) (h1 : i < cells.length) : ∃ z, idxD (.lst (cells.map .int)) (.int i) = some (.int z) := by
  have hn : i.toNat < cells.length := by omega
  refine ⟨cells[i.toNat], ?_⟩
  show atI (cells.map D.int) i = _
  unfold atI ixN
  rw [if_pos h0, List.length_map, if_pos h1]
  show (cells.map D.int)[i.toNat]? = _
  rw [List.getElem?_map, List.getElem?_eq_getElem hn]
  rfl
theorem pow18 (c : Cxt) (ρ : Env) (s : S) : ev c (.bin .Pow (.k (.int (10))) (.k (.int (18)))) ρ s = .ok (.int 1000000000000000000) s := rfl
theorem mod_ok {a b : Int} (h : small b = true) : binD .Mod (.int a) (.int b) = some (.int (a % b)) := by
  show (if small b = true then some (D.int (a % b)) else none) = _
  rw [if_pos h]
theorem div_ok {a b : Int} (h : small b = true) : binD .FloorDiv (.int a) (.int b) = some (.int (a / b)) := by
  show (if small b = true then some (D.int (a / b)) else none) = _
  rw [if_pos h]
theorem mul_ok {a b : Int} (h : fac a = true ∨ fac b = true) : binD .Mult (.int a) (.int b) = some (.int (a * b)) := by
  show (if (fac a || fac b) = true then some (D.int (a * b)) else none) = _
  rw [if_pos (Bool.or_eq_true_iff.mpr h)]
theorem p18 : binD .Pow (.int 10) (.int 18) = some (.int 1000000000000000000) := rfl
theorem fac_of {i : Int} (h0 : 0 ≤ i) (h1 : i < 2147483648) : fac i = true := decide_eq_true ⟨by omega, by omega⟩
def ssH : Ss → St
  | .cons st _ => st
  | .nil => .pass
def ssT : Ss → Ss
  | .cons _ ss => ss
  | .nil => .nil
section
variable {c : Cxt} {cells : List Int} {i r m t many : Int} {z : Option D}
theorem pull_split {ρ : Env} {s : S} : exs c bPull ρ s = (ex c (ssH bPull) ρ s).bind fun ρ s => (ex c (ssH (ssT bPull)) ρ s).bind fun ρ s => exs c (ssT (ssT bPull)) ρ s := rfl
theorem pull_tail (O : BagOk i r m t) (h1 : 0 < many) (h2 : many < 4611686018427387904) : ∃ v s', exs c (ssT (ssT bPull)) [some (.ref 0), some (.int many), z, none, none] (bag cells i r m t) = .rt (.int v) s' ∧ IsBag s' ∧ 0 ≤ v ∧ v < many := by
  have hm : small many = true := decide_eq_true ⟨h1, h2⟩
  have s1 : small 2147483549 = true := rfl
  have s2 : small 2147483629 = true := rfl
  have s3 : small 64 = true := rfl
  have fm : fac m = true := fac_of O.m0 O.m1
  have f1 : fac 8311 = true := rfl
  have f2 : fac 15991 = true := rfl
  have f3 : fac 60101 = true := rfl
  by_cases hr : 0 < r
  · have e : decide ((0 : Int) < r) = true := decide_eq_true hr
    refine ⟨r % many, bag cells i (r / many) m t, ?_, ⟨_, _, _, _, _, rfl, ⟨O.i, Int.ediv_nonneg O.r (by omega), O.m0, O.m1⟩⟩, Int.emod_nonneg _ (by omega), Int.emod_lt_of_pos _ h1⟩
    simp only [bPull, ssH, ssT, bag, exs, ex, ev, evs, evC, rb_ok, ro_ok, ob_nx, ob_rt, lift_some, ix5_0, ix5_1, ix5_2, ix5_3, ix5_4, sb5_1, sb5_2, sb5_3, sb5_4, lk5, lk_i, lk_l, add_i, bi_int, bi_len, bi_abs, c_eq, c_lt, c_gt, c_ge, eq_int, List.getElem?_cons_zero, List.getElem?_cons_succ, List.map_cons, List.map_nil, Option.map_some, p18, List.length_map, decide_true, decide_false, if_true, T.set, List.length_cons, List.length_nil, List.set_cons_zero, List.set_cons_succ, Nat.reduceAdd, Nat.reduceLT, e, mod_ok hm, div_ok hm]
  · have e : decide ((0 : Int) < r) = false := decide_eq_false hr
    have mul1 : binD .Mult (.int m) (.int m) = some (.int (m * m)) := mul_ok (.inl fm)
    have mul2 : ∀ a, binD .Mult (.int a) (.int 8311) = some (.int (a * 8311)) := fun a => mul_ok (.inr f1)
    have mul3 : ∀ a, binD .Mult (.int a) (.int 15991) = some (.int (a * 15991)) := fun a => mul_ok (.inr f2)
    have mul4 : ∀ a, binD .Mult (.int a) (.int 60101) = some (.int (a * 60101)) := fun a => mul_ok (.inr f3)
    refine ⟨(((m * m + t * 8311) % 2147483549 * 15991 + m * 60101 + 54011) % 2147483629 / 64) % many, bag cells i r (((m * m + t * 8311) % 2147483549 * 15991 + m * 60101 + 54011) % 2147483629) t, ?_, ⟨cells, i, r, _, t, rfl, ⟨O.i, O.r, Int.emod_nonneg _ (by omega), Int.lt_trans (Int.emod_lt_of_pos _ (by omega)) (by omega)⟩⟩, Int.emod_nonneg _ (by omega), Int.emod_lt_of_pos _ h1⟩
    simp only [bPull, ssH, ssT, bag, exs, ex, ev, evs, evC, rb_ok, ro_ok, ob_nx, ob_rt, lift_some, ix5_0, ix5_1, ix5_2, ix5_3, ix5_4, sb5_1, sb5_2, sb5_3, sb5_4, lk5, lk_i, lk_l, add_i, bi_int, bi_len, bi_abs, c_eq, c_lt, c_gt, c_ge, eq_int, List.getElem?_cons_zero, List.getElem?_cons_succ, List.map_cons, List.map_nil, Option.map_some, p18, List.length_map, decide_true, decide_false, if_true, T.set, List.length_cons, List.length_nil, List.set_cons_zero, List.set_cons_succ, Nat.reduceAdd, Nat.reduceLT, e, mod_ok hm, mod_ok s1, mod_ok s2, div_ok s3, mul1, mul2, mul3, mul4, Bool.false_eq_true, if_false]
theorem pull_body (O : BagOk i r m t) (h1 : 0 < many) (h2 : many < 4611686018427387904) : ∃ v s', exs c bPull [some (.ref 0), some (.int many), none, none, none] (bag cells i r m t) = .rt (.int v) s' ∧ IsBag s' ∧ 0 ≤ v ∧ v < many := by
  rw [pull_split]
  have fm : fac m = true := fac_of O.m0 O.m1
  have f1 : fac 41351 = true := rfl
  have f2 : fac 733 = true := rfl
  have s1 : small 1000133 = true := rfl
  have s2 : small 2147483629 = true := rfl
  have mul1 : ∀ a, binD .Mult (.int a) (.int 41351) = some (.int (a * 41351)) := fun a => mul_ok (.inr f1)
  have mul2 : ∀ a, binD .Mult (.int a) (.int 733) = some (.int (a * 733)) := fun a => mul_ok (.inr f2)
  by_cases hr : r = 0
  · subst hr
    by_cases hi : i < cells.length
    · obtain ⟨z0, hz⟩ := ix_ok O.i hi
      have e1 : decide (i < (cells.length : Int)) = true := decide_eq_true hi
      by_cases big : (1000000000000000000 : Int) ≤ (if z0 < 0 then -z0 else z0)
      · have e2 := decide_eq_true big
        obtain ⟨v, s', q1, q2, q3, q4⟩ := pull_tail (c := c) (cells := cells) (i := i + 1) (r := if z0 < 0 then -z0 else z0) (m := m) (t := t + 1) (many := many) (z := some (.int z0)) ⟨by have := O.i; omega, by omega, O.m0, O.m1⟩ h1 h2
        refine ⟨v, s', ?_, q2, q3, q4⟩
        rw [← q1]
        simp only [bPull, ssH, ssT, bag, exs, ex, ev, evs, evC, rb_ok, ro_ok, ob_nx, ob_rt, lift_some, ix5_0, ix5_1, ix5_2, ix5_3, ix5_4, sb5_1, sb5_2, sb5_3, sb5_4, lk5, lk_i, lk_l, add_i, bi_int, bi_len, bi_abs, c_eq, c_lt, c_gt, c_ge, eq_int, List.getElem?_cons_zero, List.getElem?_cons_succ, List.map_cons, List.map_nil, Option.map_some, p18, List.length_map, decide_true, decide_false, if_true, T.set, List.length_cons, List.length_nil, List.set_cons_zero, List.set_cons_succ, Nat.reduceAdd, Nat.reduceLT, e1, e2, hz]
      · have e2 := decide_eq_false big
        obtain ⟨v, s', q1, q2, q3, q4⟩ := pull_tail (c := c) (cells := cells) (i := i + 1) (r := 0) (m := (m * 41351 + z0 % 1000133 * 733 + 37) % 2147483629) (t := t + 1) (many := many) (z := some (.int z0)) ⟨by have := O.i; omega, by omega, Int.emod_nonneg _ (by omega), Int.lt_trans (Int.emod_lt_of_pos _ (by omega)) (by omega)⟩ h1 h2
        refine ⟨v, s', ?_, q2, q3, q4⟩
        rw [← q1]
        simp only [bPull, ssH, ssT, bag, exs, ex, ev, evs, evC, rb_ok, ro_ok, ob_nx, ob_rt, lift_some, ix5_0, ix5_1, ix5_2, ix5_3, ix5_4, sb5_1, sb5_2, sb5_3, sb5_4, lk5, lk_i, lk_l, add_i, bi_int, bi_len, bi_abs, c_eq, c_lt, c_gt, c_ge, eq_int, List.getElem?_cons_zero, List.getElem?_cons_succ, List.map_cons, List.map_nil, Option.map_some, p18, List.length_map, decide_true, decide_false, if_true, T.set, List.length_cons, List.length_nil, List.set_cons_zero, List.set_cons_succ, Nat.reduceAdd, Nat.reduceLT, e1, e2, hz, mul1, mul2, mod_ok s1, mod_ok s2, Bool.false_eq_true, if_false]
    · have e1 : decide (i < (cells.length : Int)) = false := decide_eq_false hi
      obtain ⟨v, s', q1, q2, q3, q4⟩ := pull_tail (c := c) (cells := cells) (i := i) (r := 0) (m := m) (t := t + 1) (many := many) (z := none) ⟨O.i, by omega, O.m0, O.m1⟩ h1 h2
      refine ⟨v, s', ?_, q2, q3, q4⟩
      rw [← q1]
      simp only [bPull, ssH, ssT, bag, exs, ex, ev, evs, evC, rb_ok, ro_ok, ob_nx, ob_rt, lift_some, ix5_0, ix5_1, ix5_2, ix5_3, ix5_4, sb5_1, sb5_2, sb5_3, sb5_4, lk5, lk_i, lk_l, add_i, bi_int, bi_len, bi_abs, c_eq, c_lt, c_gt, c_ge, eq_int, List.getElem?_cons_zero, List.getElem?_cons_succ, List.map_cons, List.map_nil, Option.map_some, p18, List.length_map, decide_true, decide_false, if_true, T.set, List.length_cons, List.length_nil, List.set_cons_zero, List.set_cons_succ, Nat.reduceAdd, Nat.reduceLT, e1, Bool.false_eq_true, if_false]
  · have e0 : decide (r = 0) = false := decide_eq_false hr
    obtain ⟨v, s', q1, q2, q3, q4⟩ := pull_tail (c := c) (cells := cells) (i := i) (r := r) (m := m) (t := t + 1) (many := many) (z := none) ⟨O.i, O.r, O.m0, O.m1⟩ h1 h2
    refine ⟨v, s', ?_, q2, q3, q4⟩
    rw [← q1]
    simp only [bPull, ssH, ssT, bag, exs, ex, ev, evs, evC, rb_ok, ro_ok, ob_nx, ob_rt, lift_some, ix5_0, ix5_1, ix5_2, ix5_3, ix5_4, sb5_1, sb5_2, sb5_3, sb5_4, lk5, lk_i, lk_l, add_i, bi_int, bi_len, bi_abs, c_eq, c_lt, c_gt, c_ge, eq_int, List.getElem?_cons_zero, List.getElem?_cons_succ, List.map_cons, List.map_nil, Option.map_some, p18, List.length_map, decide_true, decide_false, if_true, T.set, List.length_cons, List.length_nil, List.set_cons_zero, List.set_cons_succ, Nat.reduceAdd, Nat.reduceLT, e0, Bool.false_eq_true, if_false]
end
end NM.Dw
end

section
set_option linter.all false
set_option maxHeartbeats 4000000
set_option maxRecDepth 100000
set_option autoImplicit false
/-! NM: the draws, as calls. -/
namespace NM.Dw
open PySem L2
section
variable {P : Prg}
theorem run_eq {n : Nat} {f : Str} {F : Fn} {ds : List D} {s : S} (h : P.fn f = some F) (hl : ds.length = F.ps) (hn : F.ps ≤ F.n) : run P (n + 1) f ds s = endR F s (exs (P.ctx (run P n)) F.body (start F.n ds) s) := by
  show (match P.fn f with
    | some F => if ds.length = F.ps ∧ F.ps ≤ F.n then endR F s (exs (P.ctx (run P n)) F.body (start F.n ds) s) else .bad
    | none => .bad) = _
  rw [h]
  exact if_pos ⟨hl, hn⟩
theorem cut_len {F : Fn} {s s' : S} {d : D} (h : s'.length = s.length) : cutR F s d s' = some s' := by
  unfold cutR
  rw [if_pos (by rw [h]; simp)]
theorem end_rt {F : Fn} {s s' : S} {d : D} (h : s'.length = s.length) : endR F s (.rt d s') = .ok d s' := by
  show (match cutR F s d s' with
    | some t => R.ok d t
    | none => R.bad) = _
  rw [cut_len h]
theorem isBag_len {s : S} (h : IsBag s) : s.length = 1 := by
  obtain ⟨_, _, _, _, _, rfl, _⟩ := h
  rfl
/-- _law_pull -/
theorem pull_run (hP : P.fn "_law_pull" = some ⟨2, 5, bPull, false⟩) (n : Nat) {many : Int} {s : S} (B : IsBag s) (h1 : 0 < many) (h2 : many < 4611686018427387904) :
    ∃ v s', run P (n + 1) "_law_pull" [.ref 0, .int many] s = .ok (.int v) s' ∧ IsBag s' ∧ 0 ≤ v ∧ v < many := by
  obtain ⟨cells, i, r, m, t, rfl, O⟩ := B
  obtain ⟨v, s', e, B', h3, h4⟩ := pull_body (c := P.ctx (run P n)) (cells := cells) O h1 h2
  refine ⟨v, s', ?_, B', h3, h4⟩
  rw [run_eq hP rfl (by decide)]
  show endR _ _ (exs (P.ctx (run P n)) bPull [some (.ref 0), some (.int many), none, none, none] (bag cells i r m t)) = _
  rw [e]
  exact end_rt (isBag_len B')
/-- _law_pick -/
theorem pick_run (hP : P.fn "_law_pull" = some ⟨2, 5, bPull, false⟩) (hK : P.fn "_law_pick" = some ⟨2, 2, bPick, false⟩) (n : Nat) {xs : List D} {s : S} (B : IsBag s) (h1 : 0 < xs.length) (h2 : xs.length < 1000000) :
    ∃ d s', run P (n + 2) "_law_pick" [.ref 0, .lst xs] s = .ok d s' ∧ IsBag s' ∧ d ∈ xs := by
  obtain ⟨v, s', e, B', h3, h4⟩ := pull_run hP n (many := (xs.length : Int)) B (by omega) (by omega)
  have hv : v.toNat < xs.length := by omega
  refine ⟨xs[v.toNat], s', ?_, B', List.getElem_mem hv⟩
  rw [run_eq hK rfl (by decide)]
  have ix : idxD (.lst xs) (.int v) = some xs[v.toNat] := by
    show atI xs v = _
    unfold atI L2.ixN
    rw [if_pos h3, if_pos h4]
    exact List.getElem?_eq_getElem hv
  have hh : (P.ctx (run P (n + 1))).has "_law_pull" = true := by
    show (P.fn "_law_pull").isSome = true
    rw [hP]
    rfl
  have e' : (P.ctx (run P (n + 1))).call "_law_pull" [.ref 0, .int xs.length] s = .ok (.int v) s' := e
  have body : exs (P.ctx (run P (n + 1))) bPick (start 2 [.ref 0, .lst xs]) s = .rt xs[v.toNat] s' := by
    simp only [bPick, start, exs, ex, ev, evs, rb_ok, ro_ok, ob_nx, ob_rt, lift_some, lk_l, bi_len, List.getElem?_cons_zero, List.getElem?_cons_succ, List.map_cons, List.map_nil, List.length_cons, List.length_nil, List.cons_append, List.nil_append, hh, if_true, e', ix]
  show endR _ _ (exs (P.ctx (run P (n + 1))) bPick (start 2 [.ref 0, .lst xs]) s) = _
  rw [body]
  exact end_rt (by rw [isBag_len B, isBag_len B'])
theorem cut_map {α β : Type} (f : α → β) (xs : List α) (lo hi : Option Int) : cutD (xs.map f) lo hi = (cutD xs lo hi).map f := by
  unfold cutD
  rw [List.length_map, List.map_take, List.map_drop]
def bMix : Ss := match bStart with
  | .cons _ (.cons (.for _ _ b) _) => b
  | _ => .nil
theorem mix_go (c : Cxt) (x : D) (s : S) : ∀ (l : List Int) (m : Int) (z : Option D), 0 ≤ m → m < 2147483648 → ∃ m' z', forGo (.v 2) (exs c bMix) (l.map .int) [some x, some (.int m), z] s = .nx [some x, some (.int m'), z'] s ∧ 0 ≤ m' ∧ m' < 2147483648
  | [], m, z, h0, h1 => ⟨m, z, rfl, h0, h1⟩
  | i :: l, m, z, h0, h1 => by
    have s1 : small 1000133 = true := rfl
    have s2 : small 2147483587 = true := rfl
    have mul1 : ∀ a, binD .Mult (.int a) (.int 48017) = some (.int (a * 48017)) := fun a => mul_ok (.inr rfl)
    have mul2 : ∀ a, binD .Mult (.int a) (.int 911) = some (.int (a * 911)) := fun a => mul_ok (.inr rfl)
    obtain ⟨m', z', e, h2, h3⟩ := mix_go c x s l ((m * 48017 + i % 1000133 * 911 + 13) % 2147483587) (some (.int i)) (Int.emod_nonneg _ (by omega)) (Int.lt_trans (Int.emod_lt_of_pos _ (by omega)) (by omega))
    refine ⟨m', z', ?_, h2, h3⟩
    have step : exs c bMix [some x, some (.int m), some (.int i)] s = .nx [some x, some (.int ((m * 48017 + i % 1000133 * 911 + 13) % 2147483587)), some (.int i)] s := by
      simp only [bMix, bStart, exs, ex, ev, evs, rb_ok, ro_ok, ob_nx, ob_rt, lift_some, lk_i, add_i, bi_int, List.getElem?_cons_zero, List.getElem?_cons_succ, List.map_cons, List.map_nil, T.set, List.length_cons, List.length_nil, List.set_cons_zero, List.set_cons_succ, Nat.reduceAdd, Nat.reduceLT, if_true, mul1, mul2, mod_ok s1, mod_ok s2]
    rw [List.map_cons]
    show (match exs c bMix [some x, some (.int m), some (.int i)] s with
      | .nx ρ2 s2 => forGo (.v 2) (exs c bMix) (l.map .int) ρ2 s2
      | .ct ρ2 s2 => forGo (.v 2) (exs c bMix) (l.map .int) ρ2 s2
      | .bk ρ2 s2 => .nx ρ2 s2
      | o => o) = _
    rw [step]
    exact e
/-- _law_start -/
theorem start_run (hS : P.fn "_law_start" = some ⟨1, 3, bStart, true⟩) (n : Nat) (ns : List Int) : ∃ s', run P (n + 1) "_law_start" [.scr (ns.map .int)] [] = .ok (.ref 0) s' ∧ IsBag s' := by
  obtain ⟨m, z, e, h0, h1⟩ := mix_go (P.ctx (run P n)) (.scr (ns.map .int)) [] (cutD ns none (some 63)) 4925 none (by decide) (by decide)
  refine ⟨bag (cutD ns none (some 63)) 0 0 m 0, ?_, ⟨_, _, _, _, _, rfl, ⟨by decide, by decide, h0, h1⟩⟩⟩
  rw [run_eq hS rfl (by decide)]
  have sl : slcD (.scr (ns.map .int)) none (some 63) = some (.lst ((cutD ns none (some 63)).map .int)) := by
    show some (D.lst (cutD (ns.map .int) none (some 63))) = _
    rw [cut_map]
  have it : evI (P.ctx (run P n)) (.seq (.slc (.v 0) .no (.k (.int (63))))) [some (.scr (ns.map .int)), some (.int 4925), none] [] = .ok ((cutD ns none (some 63)).map .int) [] := by
    show (R.bind (lift (slcD (.scr (ns.map .int)) none (some 63)) []) fun d s1 => lift (itemsD d) s1) = _
    rw [sl]
    rfl
  have b1 : exs (P.ctx (run P n)) bStart (start 3 [.scr (ns.map .int)]) [] = (ex (P.ctx (run P n)) (ssH (ssT bStart)) [some (.scr (ns.map .int)), some (.int 4925), none] []).bind fun ρ s => exs (P.ctx (run P n)) (ssT (ssT bStart)) ρ s := rfl
  have b2 : ex (P.ctx (run P n)) (ssH (ssT bStart)) [some (.scr (ns.map .int)), some (.int 4925), none] [] = R.out (evI (P.ctx (run P n)) (.seq (.slc (.v 0) .no (.k (.int (63))))) [some (.scr (ns.map .int)), some (.int 4925), none] []) fun ds s1 => forGo (.v 2) (exs (P.ctx (run P n)) bMix) ds [some (.scr (ns.map .int)), some (.int 4925), none] s1 := rfl
  have b3 : exs (P.ctx (run P n)) (ssT (ssT bStart)) [some (.scr (ns.map .int)), some (.int m), z] [] = .rt (.ref 0) (bag (cutD ns none (some 63)) 0 0 m 0) := by
    have n1 : isNo .no = true := rfl
    have n2 : ∀ d, isNo (.k d) = false := fun _ => rfl
    have n3 : ∀ d, partD true d = some none := fun _ => rfl
    have n4 : ∀ i, partD false (.int i) = some (some i) := fun _ => rfl
    have n5 : ∀ l, look [] (.scr l) = .scr l := fun _ => rfl
    have n6 : ∀ l, biD "list" [.lst l] = some (.lst l) := fun _ => rfl
    have n7 : 5 ≤ line := by decide
    simp only [bStart, ssT, exs, ex, ev, evs, rb_ok, ro_ok, ob_nx, ob_rt, lift_some, lk_i, lk_l, n1, n2, n3, n4, n5, n6, sl, List.getElem?_cons_zero, List.getElem?_cons_succ, List.map_cons, List.map_nil, List.length_cons, List.length_nil, Nat.reduceAdd, Nat.zero_add, n7, if_true]
    rfl
  show endR _ _ (exs (P.ctx (run P n)) bStart (start 3 [.scr (ns.map .int)]) []) = _
  rw [b1, b2, it]
  show endR _ _ ((forGo (.v 2) (exs (P.ctx (run P n)) bMix) ((cutD ns none (some 63)).map .int) [some (.scr (ns.map .int)), some (.int 4925), none] []).bind _) = _
  rw [e]
  show endR _ _ (exs (P.ctx (run P n)) (ssT (ssT bStart)) [some (.scr (ns.map .int)), some (.int m), z] []) = _
  rw [b3]
  rfl
end
end NM.Dw
end

section
set_option Elab.async false
set_option linter.all false
set_option maxRecDepth 100000
set_option maxHeartbeats 0
set_option autoImplicit false
/-! the names of the claim -/
namespace NM.Cl
open PySem PySem.W PySem.Spec PyProof.Rows L2 NM
def top (i : Nat) : Stmt := PySem.Challenge.pw_nightsmeet_k01_errors_by_themselves.main.body.getD i (.Pass ⟨0, 0, 0, 0⟩)
def df31 : He.DefD := ⟨("_law_start", none), "_law_start", "_law_start", defArgs (top 31), defBody (top 31), defScope (top 31), [], []⟩
def df32 : He.DefD := ⟨("_law_pull", none), "_law_pull", "_law_pull", defArgs (top 32), defBody (top 32), defScope (top 32), [], []⟩
def df33 : He.DefD := ⟨("_law_pick", none), "_law_pick", "_law_pick", defArgs (top 33), defBody (top 33), defScope (top 33), [], []⟩
def df34 : He.DefD := ⟨("_law_odd", none), "_law_odd", "_law_odd", defArgs (top 34), defBody (top 34), defScope (top 34), [], []⟩
def df35 : He.DefD := ⟨("_law_codes", none), "_law_codes", "_law_codes", defArgs (top 35), defBody (top 35), defScope (top 35), [], []⟩
def df36 : He.DefD := ⟨("_law_first_errors", none), "_law_first_errors", "_law_first_errors", defArgs (top 36), defBody (top 36), defScope (top 36), [], []⟩
def df37 : He.DefD := ⟨("_law_late_errors", none), "_law_late_errors", "_law_late_errors", defArgs (top 37), defBody (top 37), defScope (top 37), [], []⟩
def df38 : He.DefD := ⟨("_law_same", none), "_law_same", "_law_same", defArgs (top 38), defBody (top 38), defScope (top 38), [], []⟩
def df39 : He.DefD := ⟨("_law_first_kinds", none), "_law_first_kinds", "_law_first_kinds", defArgs (top 39), defBody (top 39), defScope (top 39), [], []⟩
def df40 : He.DefD := ⟨("_law_late_kinds", none), "_law_late_kinds", "_law_late_kinds", defArgs (top 40), defBody (top 40), defScope (top 40), [], []⟩
def df41 : He.DefD := ⟨("_law_field", none), "_law_field", "_law_field", defArgs (top 41), defBody (top 41), defScope (top 41), [], []⟩
def df42 : He.DefD := ⟨("law", none), "law", "law", defArgs (top 42), defBody (top 42), defScope (top 42), [], []⟩
def tabA : List (Str × List Str) := (([("MeetError", ["MeetError", "ValueError", "Exception", "BaseException", "object"]), ("InvalidName", ["InvalidName", "MeetError", "ValueError", "Exception", "BaseException", "object"]), ("InvalidPeriod", ["InvalidPeriod", "MeetError", "ValueError", "Exception", "BaseException", "object"]), ("InvalidLimit", ["InvalidLimit", "MeetError", "ValueError", "Exception", "BaseException", "object"]), ("InvalidReading", ["InvalidReading", "MeetError", "ValueError", "Exception", "BaseException", "object"]), ("InvalidPart", ["InvalidPart", "MeetError", "ValueError", "Exception", "BaseException", "object"]), ("DuplicateName", ["DuplicateName", "MeetError", "ValueError", "Exception", "BaseException", "object"]), ("InvalidPin", ["InvalidPin", "MeetError", "ValueError", "Exception", "BaseException", "object"]), ("InvalidPath", ["InvalidPath", "MeetError", "ValueError", "Exception", "BaseException", "object"]), ("InvalidLate", ["InvalidLate", "MeetError", "ValueError", "Exception", "BaseException", "object"]), ("InvalidLength", ["InvalidLength", "MeetError", "ValueError", "Exception", "BaseException", "object"]), ("InvalidSeen", ["InvalidSeen", "MeetError", "ValueError", "Exception", "BaseException", "object"]), ("InvalidEntry", ["InvalidEntry", "MeetError", "ValueError", "Exception", "BaseException", "object"]), ("MissLimit", ["MissLimit", "MeetError", "ValueError", "Exception", "BaseException", "object"]), ("Unsettled", ["Unsettled", "MeetError", "ValueError", "Exception", "BaseException", "object"]), ("InvalidWish", ["InvalidWish", "MeetError", "ValueError", "Exception", "BaseException", "object"]), ("InvalidOffer", ["InvalidOffer", "MeetError", "ValueError", "Exception", "BaseException", "object"]), ("InvalidCount", ["InvalidCount", "MeetError", "ValueError", "Exception", "BaseException", "object"]), ("OtherWays", ["OtherWays", "MeetError", "ValueError", "Exception", "BaseException", "object"]), ("InvalidRow", ["InvalidRow", "MeetError", "ValueError", "Exception", "BaseException", "object"])] : List (Str × List Str)) ++ ([("InvalidText", ["InvalidText", "MeetError", "ValueError", "Exception", "BaseException", "object"]), ("InvalidCommand", ["InvalidCommand", "MeetError", "ValueError", "Exception", "BaseException", "object"]), ("WrongKind", ["WrongKind", "MeetError", "ValueError", "Exception", "BaseException", "object"]), ("TooMany", ["TooMany", "MeetError", "ValueError", "Exception", "BaseException", "object"]), ("Full", ["Full", "MeetError", "ValueError", "Exception", "BaseException", "object"]), ("Missing", ["Missing", "LookupError", "Exception", "BaseException", "object"]), ("UnknownName", ["UnknownName", "Missing", "LookupError", "Exception", "BaseException", "object"]), ("UnknownRun", ["UnknownRun", "Missing", "LookupError", "Exception", "BaseException", "object"]), ("NothingLeft", ["NothingLeft", "IndexError", "LookupError", "Exception", "BaseException", "object"])] : List (Str × List Str)))
def exsA : List (Str × Option Str) := (([("InvalidName", some "given"), ("InvalidPeriod", some "given"), ("InvalidLimit", some "word"), ("InvalidReading", some "at"), ("InvalidPart", some "at"), ("DuplicateName", some "name"), ("InvalidPin", some "at"), ("InvalidPath", some "given"), ("InvalidLate", some "given"), ("InvalidLength", some "given"), ("InvalidSeen", some "given"), ("InvalidEntry", some "at"), ("MissLimit", some "name"), ("Unsettled", some "number"), ("InvalidWish", some "at"), ("InvalidOffer", some "at"), ("InvalidCount", some "given"), ("OtherWays", none), ("InvalidRow", some "at"), ("InvalidText", some "line")] : List (Str × Option Str)) ++ ([("InvalidCommand", some "at"), ("WrongKind", some "name"), ("TooMany", some "most"), ("Full", some "most"), ("UnknownName", some "name"), ("UnknownRun", some "number"), ("NothingLeft", none)] : List (Str × Option Str)))
def hd : HD := ⟨[df31, df32, df33, df34, df35, df36, df37, df38, df39, df40, df41, df42], exsA, ((["MeetError", "Missing"] : List (Str))), ((["len", "int", "abs", "list", "max", "all", "isinstance", "range", "enumerate", "zip", "super", "bool", "str", "tuple", "ValueError", "LookupError", "IndexError"] : List (Str))), fun k => (tabA.lookup k).getD []⟩
def fnsA : List Str := ((["_law_start", "_law_pull", "_law_pick", "_law_odd", "_law_codes", "_law_first_errors", "_law_late_errors", "_law_same", "_law_first_kinds", "_law_late_kinds", "_law_field", "law"] : List (Str)))
def cc : CC := ⟨fnsA, exsA, [], hd.ex ++ (["int", "bool", "str", "list", "tuple", "ValueError", "LookupError", "IndexError"] : List Str)⟩
def nm31 : List Str := ((["_law_script", "_law_mixed", "_law_cell"] : List (Str)))
def ps31 : List Str := ((["_law_script"] : List (Str)))
def cp31 : Option Ss := cSs cc true 200 ⟨nm31, defScope (top 31)⟩ (defBody (top 31))
def nm32 : List Str := ((["_law_bag", "_law_many", "_law_cell", "_law_digit", "_law_twice"] : List (Str)))
def ps32 : List Str := ((["_law_bag", "_law_many"] : List (Str)))
def cp32 : Option Ss := cSs cc false 200 ⟨nm32, defScope (top 32)⟩ (defBody (top 32))
def nm33 : List Str := ((["_law_bag", "_law_some"] : List (Str)))
def ps33 : List Str := ((["_law_bag", "_law_some"] : List (Str)))
def cp33 : Option Ss := cSs cc false 200 ⟨nm33, defScope (top 33)⟩ (defBody (top 33))
def nm34 : List Str := ((["_law_bag", "_law_more"] : List (Str)))
def ps34 : List Str := ((["_law_bag", "_law_more"] : List (Str)))
def cp34 : Option Ss := cSs cc false 200 ⟨nm34, defScope (top 34)⟩ (defBody (top 34))
def nm35 : List Str := (([] : List (Str)))
def ps35 : List Str := (([] : List (Str)))
def cp35 : Option Ss := cSs cc false 200 ⟨nm35, defScope (top 35)⟩ (defBody (top 35))
def nm36 : List Str := ((["_law_a"] : List (Str)))
def ps36 : List Str := ((["_law_a"] : List (Str)))
def cp36 : Option Ss := cSs cc false 200 ⟨nm36, defScope (top 36)⟩ (defBody (top 36))
def nm37 : List Str := ((["_law_a"] : List (Str)))
def ps37 : List Str := ((["_law_a"] : List (Str)))
def cp37 : Option Ss := cSs cc false 200 ⟨nm37, defScope (top 37)⟩ (defBody (top 37))
def nm38 : List Str := ((["_law_found", "_law_due", "_law_a", "_law_b"] : List (Str)))
def ps38 : List Str := ((["_law_found", "_law_due"] : List (Str)))
def cp38 : Option Ss := cSs cc false 200 ⟨nm38, defScope (top 38)⟩ (defBody (top 38))
def nm39 : List Str := ((["_law_e"] : List (Str)))
def ps39 : List Str := ((["_law_e"] : List (Str)))
def cp39 : Option Ss := cSs cc false 200 ⟨nm39, defScope (top 39)⟩ (defBody (top 39))
def nm40 : List Str := ((["_law_e"] : List (Str)))
def ps40 : List Str := ((["_law_e"] : List (Str)))
def cp40 : Option Ss := cSs cc false 200 ⟨nm40, defScope (top 40)⟩ (defBody (top 40))
def nm41 : List Str := ((["_law_e"] : List (Str)))
def ps41 : List Str := ((["_law_e"] : List (Str)))
def cp41 : Option Ss := cSs cc false 200 ⟨nm41, defScope (top 41)⟩ (defBody (top 41))
def nm42 : List Str := ((["_law_script", "_law_bag", "_law_a", "_law_codes_here", "_law_made", "_law_k", "_law_e", "_law_kinds", "_law_j", "_law_bases", "_law_due"] : List (Str)))
def ps42 : List Str := ((["_law_script"] : List (Str)))
def cp42 : Option Ss := cSs cc false 200 ⟨nm42, defScope (top 42)⟩ (defBody (top 42))
abbrev R : OpenRow := OpenLaw.row PySem.Challenge.rw_nightsmeet_k01_errors_by_themselves
abbrev hk : Hook := hookN PySem.Challenge.rw_nightsmeet_k01_errors_by_themselves.prog hd
def ob (s : SharedT) : He.AlD := obsN PySem.Challenge.rw_nightsmeet_k01_errors_by_themselves.prog hd (HandSHeadRun.getT s)
theorem ob_eq (s : SharedT) : ob s = hk.obs s.abs := obsN_eq (HandSHeadRun.getT_eq s)
def loose : List Str := ((["MeetError", "InvalidName", "InvalidPeriod", "InvalidLimit", "InvalidReading", "InvalidPart", "DuplicateName", "InvalidPin", "InvalidPath", "InvalidLate", "InvalidLength", "InvalidSeen", "InvalidEntry", "MissLimit", "Unsettled", "InvalidWish", "InvalidOffer", "InvalidCount", "OtherWays", "InvalidRow"] : List (Str)) ++ (["InvalidText", "InvalidCommand", "WrongKind", "TooMany", "Full", "Missing", "UnknownName", "UnknownRun", "NothingLeft", "_law_start", "_law_pull", "_law_pick", "_law_odd", "_law_codes", "_law_first_errors", "_law_late_errors", "_law_same", "_law_first_kinds", "_law_late_kinds", "_law_field"] : List (Str)))
end NM.Cl
end

section
set_option maxRecDepth 100000
set_option maxHeartbeats 0
set_option Elab.async false
namespace NM.Cl
open PySem PySem.W PySem.Spec PyProof.Rows L2 NM
theorem hrun (w : World) : HandSHeadRun.RunEq R (view R.prog [42]) hk ob 12000 loose w := by
  intro os
  kernel_rfl
end NM.Cl
end

section
set_option linter.all false
set_option maxRecDepth 100000
set_option maxHeartbeats 0
set_option Elab.async false
set_option autoImplicit false
/-! the compiled defs of the claim -/
namespace NM.Cl
open PySem L2 NM
def b31 : Ss := (.cons (.asg (.v 1) (.k (.int (4925)))) (.cons (.for (.v 2) (.seq (.slc (.v 0) .no (.k (.int (63))))) (.cons (.asg (.v 1) (.bin .Mod (.bi "int" (.cons (.bin .Add (.bin .Add (.bin .Mult (.v 1) (.k (.int (48017)))) (.bin .Mult (.bin .Mod (.bi "int" (.cons (.v 2) .nil)) (.k (.int (1000133)))) (.k (.int (911))))) (.k (.int (13)))) .nil)) (.k (.int (2147483587))))) .nil)) (.cons (.ret (.mlst (.cons (.bi "list" (.cons (.slc (.v 0) .no (.k (.int (63)))) .nil)) (.cons (.k (.int (0))) (.cons (.k (.int (0))) (.cons (.v 1) (.cons (.k (.int (0))) .nil))))))) .nil)))
theorem cp31_eq : cp31 = some b31 := by kernel_rfl
def b32 : Ss := (.cons (.sub (.v 0) (.k (.int (4))) (.bin .Add (.idx (.v 0) (.k (.int (4)))) (.k (.int (1))))) (.cons (.ite (.and (.cmp .Eq (.idx (.v 0) (.k (.int (2)))) (.k (.int (0)))) (.cmp .Lt (.idx (.v 0) (.k (.int (1)))) (.bi "len" (.cons (.idx (.v 0) (.k (.int (0)))) .nil)))) (.cons (.asg (.v 2) (.idx (.idx (.v 0) (.k (.int (0)))) (.idx (.v 0) (.k (.int (1)))))) (.cons (.sub (.v 0) (.k (.int (1))) (.bin .Add (.idx (.v 0) (.k (.int (1)))) (.k (.int (1))))) (.cons (.ite (.cmp .GtE (.bi "abs" (.cons (.v 2) .nil)) (.bin .Pow (.k (.int (10))) (.k (.int (18))))) (.cons (.sub (.v 0) (.k (.int (2))) (.bi "abs" (.cons (.v 2) .nil))) .nil) (.cons (.sub (.v 0) (.k (.int (3))) (.bin .Mod (.bi "int" (.cons (.bin .Add (.bin .Add (.bin .Mult (.idx (.v 0) (.k (.int (3)))) (.k (.int (41351)))) (.bin .Mult (.bin .Mod (.bi "int" (.cons (.v 2) .nil)) (.k (.int (1000133)))) (.k (.int (733))))) (.k (.int (37)))) .nil)) (.k (.int (2147483629))))) .nil)) .nil))) .nil) (.cons (.ite (.cmp .Gt (.idx (.v 0) (.k (.int (2)))) (.k (.int (0)))) (.cons (.asg (.v 3) (.bin .Mod (.bi "int" (.cons (.idx (.v 0) (.k (.int (2)))) .nil)) (.v 1))) (.cons (.sub (.v 0) (.k (.int (2))) (.bin .FloorDiv (.idx (.v 0) (.k (.int (2)))) (.v 1))) (.cons (.ret (.v 3)) .nil))) .nil) (.cons (.asg (.v 4) (.bin .Mod (.bi "int" (.cons (.bin .Add (.bin .Mult (.idx (.v 0) (.k (.int (3)))) (.idx (.v 0) (.k (.int (3))))) (.bin .Mult (.idx (.v 0) (.k (.int (4)))) (.k (.int (8311))))) .nil)) (.k (.int (2147483549))))) (.cons (.sub (.v 0) (.k (.int (3))) (.bin .Mod (.bi "int" (.cons (.bin .Add (.bin .Add (.bin .Mult (.v 4) (.k (.int (15991)))) (.bin .Mult (.idx (.v 0) (.k (.int (3)))) (.k (.int (60101))))) (.k (.int (54011)))) .nil)) (.k (.int (2147483629))))) (.cons (.ret (.bin .Mod (.bi "int" (.cons (.bin .FloorDiv (.idx (.v 0) (.k (.int (3)))) (.k (.int (64)))) .nil)) (.v 1))) .nil))))))
theorem cp32_eq : cp32 = some b32 := by kernel_rfl
def b33 : Ss := (.cons (.ret (.idx (.v 1) (.call "_law_pull" (.cons (.v 0) (.cons (.bi "len" (.cons (.v 1) .nil)) .nil))))) .nil)
theorem cp33_eq : cp33 = some b33 := by kernel_rfl
def b34 : Ss := (.cons (.ret (.call "_law_pick" (.cons (.v 0) (.cons (.bin .Add (.lst (.cons (.k .non) (.cons (.k (.bl true)) (.cons (.k (.bl false)) (.cons (.k (.str "")) (.cons (.k (.str "A")) (.cons (.neg (.k (.int (1)))) (.cons (.tup (.cons (.k (.int (1))) (.cons (.k (.str "a")) .nil))) (.cons (.lst (.cons (.k (.int (1))) .nil)) (.cons (.tup .nil) (.cons (.bin .Pow (.k (.int (10))) (.k (.int (17)))) .nil))))))))))) (.v 1)) .nil)))) .nil)
theorem cp34_eq : cp34 = some b34 := by kernel_rfl
def b35 : Ss := (.cons (.ret (.lst (.cons (.k (.str "InvalidName")) (.cons (.k (.str "InvalidPeriod")) (.cons (.k (.str "InvalidLimit")) (.cons (.k (.str "InvalidReading")) (.cons (.k (.str "InvalidPart")) (.cons (.k (.str "DuplicateName")) (.cons (.k (.str "InvalidPin")) (.cons (.k (.str "InvalidPath")) (.cons (.k (.str "InvalidLate")) (.cons (.k (.str "InvalidLength")) (.cons (.k (.str "InvalidSeen")) (.cons (.k (.str "InvalidEntry")) (.cons (.k (.str "MissLimit")) (.cons (.k (.str "Unsettled")) (.cons (.k (.str "InvalidWish")) (.cons (.k (.str "InvalidOffer")) (.cons (.k (.str "InvalidCount")) (.cons (.k (.str "OtherWays")) (.cons (.k (.str "InvalidRow")) (.cons (.k (.str "InvalidText")) (.cons (.k (.str "InvalidCommand")) (.cons (.k (.str "WrongKind")) (.cons (.k (.str "TooMany")) (.cons (.k (.str "Full")) (.cons (.k (.str "UnknownName")) (.cons (.k (.str "UnknownRun")) (.cons (.k (.str "NothingLeft")) .nil))))))))))))))))))))))))))))) .nil)
theorem cp35_eq : cp35 = some b35 := by kernel_rfl
def b36 : Ss := (.cons (.ret (.lst (.cons (.new "InvalidName" (.v 0)) (.cons (.new "InvalidPeriod" (.v 0)) (.cons (.new "InvalidLimit" (.v 0)) (.cons (.new "InvalidReading" (.v 0)) (.cons (.new "InvalidPart" (.v 0)) (.cons (.new "DuplicateName" (.v 0)) (.cons (.new "InvalidPin" (.v 0)) (.cons (.new "InvalidPath" (.v 0)) (.cons (.new "InvalidLate" (.v 0)) (.cons (.new "InvalidLength" (.v 0)) (.cons (.new "InvalidSeen" (.v 0)) (.cons (.new "InvalidEntry" (.v 0)) (.cons (.new "MissLimit" (.v 0)) .nil))))))))))))))) .nil)
theorem cp36_eq : cp36 = some b36 := by kernel_rfl
def b37 : Ss := (.cons (.ret (.lst (.cons (.new "Unsettled" (.v 0)) (.cons (.new "InvalidWish" (.v 0)) (.cons (.new "InvalidOffer" (.v 0)) (.cons (.new "InvalidCount" (.v 0)) (.cons (.new0 "OtherWays") (.cons (.new "InvalidRow" (.v 0)) (.cons (.new "InvalidText" (.v 0)) (.cons (.new "InvalidCommand" (.v 0)) (.cons (.new "WrongKind" (.v 0)) (.cons (.new "TooMany" (.v 0)) (.cons (.new "Full" (.v 0)) (.cons (.new "UnknownName" (.v 0)) (.cons (.new "UnknownRun" (.v 0)) (.cons (.new0 "NothingLeft") .nil)))))))))))))))) .nil)
theorem cp37_eq : cp37 = some b37 := by kernel_rfl
def b38 : Ss := (.cons (.ite (.or (.cmp .Is (.v 1) (.k .non)) (.cmp .Is (.v 0) (.k .non))) (.cons (.ret (.and (.cmp .Is (.v 1) (.k .non)) (.cmp .Is (.v 0) (.k .non)))) .nil) .nil) (.cons (.ite (.val (.isi (.v 1) ["list"])) (.cons (.ite (.or (.not (.val (.isi (.v 0) ["list"]))) (.cmp .NotEq (.bi "len" (.cons (.v 0) .nil)) (.bi "len" (.cons (.v 1) .nil)))) (.cons (.ret (.k (.bl false))) .nil) .nil) (.cons (.ret (.bi "all" (.cons (.lc [2, 3] (.call "_law_same" (.cons (.v 2) (.cons (.v 3) .nil))) (.tup [(.v 2), (.v 3)]) (.zip (.v 0) (.v 1)) .yes) .nil))) .nil)) .nil) (.cons (.ite (.val (.isi (.v 1) ["tuple"])) (.cons (.ite (.or (.not (.val (.isi (.v 0) ["tuple"]))) (.cmp .NotEq (.bi "len" (.cons (.v 0) .nil)) (.bi "len" (.cons (.v 1) .nil)))) (.cons (.ret (.k (.bl false))) .nil) .nil) (.cons (.ret (.bi "all" (.cons (.lc [2, 3] (.call "_law_same" (.cons (.v 2) (.cons (.v 3) .nil))) (.tup [(.v 2), (.v 3)]) (.zip (.v 0) (.v 1)) .yes) .nil))) .nil)) .nil) (.cons (.ite (.val (.isi (.v 1) ["bool"])) (.cons (.ret (.and (.isi (.v 0) ["bool"]) (.cmp .Eq (.v 0) (.v 1)))) .nil) .nil) (.cons (.ite (.val (.isi (.v 1) ["int"])) (.cons (.ite (.not (.val (.isi (.v 0) ["int"]))) (.cons (.ret (.k (.bl false))) .nil) .nil) (.cons (.ret (.and (.not (.isi (.v 0) ["bool"])) (.cmp .Eq (.v 0) (.v 1)))) .nil)) .nil) (.cons (.ret (.and (.isi (.v 0) ["str"]) (.cmp .Eq (.v 0) (.v 1)))) .nil))))))
theorem cp38_eq : cp38 = some b38 := by kernel_rfl
def b39 : Ss := (.cons (.ret (.lst (.cons (.isi (.v 0) ["InvalidName"]) (.cons (.isi (.v 0) ["InvalidPeriod"]) (.cons (.isi (.v 0) ["InvalidLimit"]) (.cons (.isi (.v 0) ["InvalidReading"]) (.cons (.isi (.v 0) ["InvalidPart"]) (.cons (.isi (.v 0) ["DuplicateName"]) (.cons (.isi (.v 0) ["InvalidPin"]) (.cons (.isi (.v 0) ["InvalidPath"]) (.cons (.isi (.v 0) ["InvalidLate"]) (.cons (.isi (.v 0) ["InvalidLength"]) (.cons (.isi (.v 0) ["InvalidSeen"]) (.cons (.isi (.v 0) ["InvalidEntry"]) (.cons (.isi (.v 0) ["MissLimit"]) .nil))))))))))))))) .nil)
theorem cp39_eq : cp39 = some b39 := by kernel_rfl
def b40 : Ss := (.cons (.ret (.lst (.cons (.isi (.v 0) ["Unsettled"]) (.cons (.isi (.v 0) ["InvalidWish"]) (.cons (.isi (.v 0) ["InvalidOffer"]) (.cons (.isi (.v 0) ["InvalidCount"]) (.cons (.isi (.v 0) ["OtherWays"]) (.cons (.isi (.v 0) ["InvalidRow"]) (.cons (.isi (.v 0) ["InvalidText"]) (.cons (.isi (.v 0) ["InvalidCommand"]) (.cons (.isi (.v 0) ["WrongKind"]) (.cons (.isi (.v 0) ["TooMany"]) (.cons (.isi (.v 0) ["Full"]) (.cons (.isi (.v 0) ["UnknownName"]) (.cons (.isi (.v 0) ["UnknownRun"]) (.cons (.isi (.v 0) ["NothingLeft"]) .nil)))))))))))))))) .nil)
theorem cp40_eq : cp40 = some b40 := by kernel_rfl
def b41 : Ss := (.cons (.ite (.cmp .In (.attr (.v 0) "code") (.lst (.cons (.k (.str "InvalidName")) (.cons (.k (.str "InvalidPeriod")) (.cons (.k (.str "InvalidPath")) (.cons (.k (.str "InvalidLate")) (.cons (.k (.str "InvalidLength")) (.cons (.k (.str "InvalidSeen")) (.cons (.k (.str "InvalidCount")) .nil))))))))) (.cons (.ret (.attr (.v 0) "given")) .nil) .nil) (.cons (.ite (.cmp .In (.attr (.v 0) "code") (.lst (.cons (.k (.str "InvalidReading")) (.cons (.k (.str "InvalidPart")) (.cons (.k (.str "InvalidPin")) (.cons (.k (.str "InvalidEntry")) (.cons (.k (.str "InvalidWish")) (.cons (.k (.str "InvalidOffer")) (.cons (.k (.str "InvalidRow")) (.cons (.k (.str "InvalidCommand")) .nil)))))))))) (.cons (.ret (.attr (.v 0) "at")) .nil) .nil) (.cons (.ite (.cmp .In (.attr (.v 0) "code") (.lst (.cons (.k (.str "DuplicateName")) (.cons (.k (.str "MissLimit")) (.cons (.k (.str "WrongKind")) (.cons (.k (.str "UnknownName")) .nil)))))) (.cons (.ret (.attr (.v 0) "name")) .nil) .nil) (.cons (.ite (.cmp .In (.attr (.v 0) "code") (.lst (.cons (.k (.str "Unsettled")) (.cons (.k (.str "UnknownRun")) .nil)))) (.cons (.ret (.attr (.v 0) "number")) .nil) .nil) (.cons (.ite (.cmp .In (.attr (.v 0) "code") (.lst (.cons (.k (.str "TooMany")) (.cons (.k (.str "Full")) .nil)))) (.cons (.ret (.attr (.v 0) "most")) .nil) .nil) (.cons (.ite (.cmp .Eq (.attr (.v 0) "code") (.k (.str "InvalidLimit"))) (.cons (.ret (.attr (.v 0) "word")) .nil) .nil) (.cons (.ret (.ite (.cmp .Eq (.attr (.v 0) "code") (.k (.str "InvalidText"))) (.attr (.v 0) "line") (.k .non))) .nil)))))))
theorem cp41_eq : cp41 = some b41 := by kernel_rfl
def b42 : Ss := (.cons (.asg (.v 1) (.call "_law_start" (.cons (.v 0) .nil))) (.cons (.asg (.v 2) (.call "_law_odd" (.cons (.v 1) (.cons (.lst (.cons (.k (.str "zz")) (.cons (.call "_law_pull" (.cons (.v 1) (.cons (.bin .Pow (.k (.int (10))) (.k (.int (15)))) .nil))) (.cons (.tup (.cons (.k .non) (.cons (.tup (.cons (.k (.int (2))) (.cons (.k (.str "b")) .nil))) .nil))) .nil)))) .nil)))) (.cons (.par [3, 4] (.cons (.call "_law_codes" .nil) (.cons (.bin .Add (.call "_law_first_errors" (.cons (.v 2) .nil)) (.call "_law_late_errors" (.cons (.v 2) .nil))) .nil))) (.cons (.for (.v 5) (.rng1 (.k (.int (27)))) (.cons (.asg (.v 6) (.idx (.v 4) (.v 5))) (.cons (.ite (.not (.val (.call "_law_same" (.cons (.attr (.v 6) "code") (.cons (.idx (.v 3) (.v 5)) .nil))))) (.cons (.ret (.k (.bl false))) .nil) .nil) (.cons (.asg (.v 7) (.bin .Add (.call "_law_first_kinds" (.cons (.v 6) .nil)) (.call "_law_late_kinds" (.cons (.v 6) .nil)))) (.cons (.ite (.cmp .NotEq (.v 7) (.lc [8] (.cmp .Eq (.v 8) (.v 5)) (.v 8) (.rng1 (.k (.int (27)))) .yes)) (.cons (.ret (.k (.bl false))) .nil) .nil) (.cons (.asg (.v 9) (.lst (.cons (.isi (.v 6) ["MeetError"]) (.cons (.isi (.v 6) ["ValueError"]) (.cons (.isi (.v 6) ["Missing"]) (.cons (.isi (.v 6) ["LookupError"]) (.cons (.isi (.v 6) ["IndexError"]) .nil))))))) (.cons (.asg (.v 10) (.lst (.cons (.k (.bl true)) (.cons (.k (.bl true)) (.cons (.k (.bl false)) (.cons (.k (.bl false)) (.cons (.k (.bl false)) .nil))))))) (.cons (.ite (.cmp .Gt (.v 5) (.k (.int (23)))) (.cons (.asg (.v 10) (.ite (.cmp .Eq (.v 5) (.k (.int (26)))) (.lst (.cons (.k (.bl false)) (.cons (.k (.bl false)) (.cons (.k (.bl false)) (.cons (.k (.bl true)) (.cons (.k (.bl true)) .nil)))))) (.lst (.cons (.k (.bl false)) (.cons (.k (.bl false)) (.cons (.k (.bl true)) (.cons (.k (.bl true)) (.cons (.k (.bl false)) .nil)))))))) .nil) .nil) (.cons (.ite (.cmp .NotEq (.v 9) (.v 10)) (.cons (.ret (.k (.bl false))) .nil) .nil) (.cons (.ite (.and (.cmp .NotIn (.v 5) (.tup (.cons (.k (.int (17))) (.cons (.k (.int (26))) .nil)))) (.not (.val (.call "_law_same" (.cons (.call "_law_field" (.cons (.v 6) .nil)) (.cons (.v 2) .nil)))))) (.cons (.ret (.k (.bl false))) .nil) .nil) .nil)))))))))) (.cons (.ret (.k (.bl true))) .nil)))))
theorem cp42_eq : cp42 = some b42 := by kernel_rfl
def fnT : List (Str × Fn) := [("_law_start", ⟨1, 3, b31, true⟩), ("_law_pull", ⟨2, 5, b32, false⟩), ("_law_pick", ⟨2, 2, b33, false⟩), ("_law_odd", ⟨2, 2, b34, false⟩), ("_law_codes", ⟨0, 0, b35, false⟩), ("_law_first_errors", ⟨1, 1, b36, false⟩), ("_law_late_errors", ⟨1, 1, b37, false⟩), ("_law_same", ⟨2, 4, b38, false⟩), ("_law_first_kinds", ⟨1, 1, b39, false⟩), ("_law_late_kinds", ⟨1, 1, b40, false⟩), ("_law_field", ⟨1, 1, b41, false⟩), ("law", ⟨1, 11, b42, false⟩)]
def P : Prg := ⟨fun f => fnT.lookup f, fun f => exsA.lookup f, fun _ => none, subD hd, fun k f => match exsA.lookup k with | some p => f == "code" || p == some f | none => false, 1000⟩
theorem fn_ok : ∀ f F, P.fn f = some F → DfOk hd cc f F := by
  intro f F h
  have m := lookup_mem (show fnT.lookup f = some F from h)
  simp only [fnT, List.mem_cons, List.not_mem_nil, or_false, Prod.mk.injEq] at m
  rcases m with ⟨rfl, rfl⟩ | ⟨rfl, rfl⟩ | ⟨rfl, rfl⟩ | ⟨rfl, rfl⟩ | ⟨rfl, rfl⟩ | ⟨rfl, rfl⟩ | ⟨rfl, rfl⟩ | ⟨rfl, rfl⟩ | ⟨rfl, rfl⟩ | ⟨rfl, rfl⟩ | ⟨rfl, rfl⟩ | ⟨rfl, rfl⟩
  · exact ⟨df31, by simp [hd], rfl, rfl, rfl, rfl, nm31, ps31, true, 200, ⟨rfl, rfl, rfl, by decide +kernel, rfl, by decide +kernel, by decide +kernel⟩, cp31_eq, rfl, rfl, fun kV doc pm an cdv ct us hl => match us, hl with | [_], _ => rfl⟩
  · exact ⟨df32, by simp [hd], rfl, rfl, rfl, rfl, nm32, ps32, false, 200, ⟨rfl, rfl, rfl, by decide +kernel, rfl, by decide +kernel, by decide +kernel⟩, cp32_eq, rfl, rfl, fun kV doc pm an cdv ct us hl => match us, hl with | [_, _], _ => rfl⟩
  · exact ⟨df33, by simp [hd], rfl, rfl, rfl, rfl, nm33, ps33, false, 200, ⟨rfl, rfl, rfl, by decide +kernel, rfl, by decide +kernel, by decide +kernel⟩, cp33_eq, rfl, rfl, fun kV doc pm an cdv ct us hl => match us, hl with | [_, _], _ => rfl⟩
  · exact ⟨df34, by simp [hd], rfl, rfl, rfl, rfl, nm34, ps34, false, 200, ⟨rfl, rfl, rfl, by decide +kernel, rfl, by decide +kernel, by decide +kernel⟩, cp34_eq, rfl, rfl, fun kV doc pm an cdv ct us hl => match us, hl with | [_, _], _ => rfl⟩
  · exact ⟨df35, by simp [hd], rfl, rfl, rfl, rfl, nm35, ps35, false, 200, ⟨rfl, rfl, rfl, by decide +kernel, rfl, by decide +kernel, by decide +kernel⟩, cp35_eq, rfl, rfl, fun kV doc pm an cdv ct us hl => match us, hl with | [], _ => rfl⟩
  · exact ⟨df36, by simp [hd], rfl, rfl, rfl, rfl, nm36, ps36, false, 200, ⟨rfl, rfl, rfl, by decide +kernel, rfl, by decide +kernel, by decide +kernel⟩, cp36_eq, rfl, rfl, fun kV doc pm an cdv ct us hl => match us, hl with | [_], _ => rfl⟩
  · exact ⟨df37, by simp [hd], rfl, rfl, rfl, rfl, nm37, ps37, false, 200, ⟨rfl, rfl, rfl, by decide +kernel, rfl, by decide +kernel, by decide +kernel⟩, cp37_eq, rfl, rfl, fun kV doc pm an cdv ct us hl => match us, hl with | [_], _ => rfl⟩
  · exact ⟨df38, by simp [hd], rfl, rfl, rfl, rfl, nm38, ps38, false, 200, ⟨rfl, rfl, rfl, by decide +kernel, rfl, by decide +kernel, by decide +kernel⟩, cp38_eq, rfl, rfl, fun kV doc pm an cdv ct us hl => match us, hl with | [_, _], _ => rfl⟩
  · exact ⟨df39, by simp [hd], rfl, rfl, rfl, rfl, nm39, ps39, false, 200, ⟨rfl, rfl, rfl, by decide +kernel, rfl, by decide +kernel, by decide +kernel⟩, cp39_eq, rfl, rfl, fun kV doc pm an cdv ct us hl => match us, hl with | [_], _ => rfl⟩
  · exact ⟨df40, by simp [hd], rfl, rfl, rfl, rfl, nm40, ps40, false, 200, ⟨rfl, rfl, rfl, by decide +kernel, rfl, by decide +kernel, by decide +kernel⟩, cp40_eq, rfl, rfl, fun kV doc pm an cdv ct us hl => match us, hl with | [_], _ => rfl⟩
  · exact ⟨df41, by simp [hd], rfl, rfl, rfl, rfl, nm41, ps41, false, 200, ⟨rfl, rfl, rfl, by decide +kernel, rfl, by decide +kernel, by decide +kernel⟩, cp41_eq, rfl, rfl, fun kV doc pm an cdv ct us hl => match us, hl with | [_], _ => rfl⟩
  · exact ⟨df42, by simp [hd], rfl, rfl, rfl, rfl, nm42, ps42, false, 200, ⟨rfl, rfl, rfl, by decide +kernel, rfl, by decide +kernel, by decide +kernel⟩, cp42_eq, rfl, rfl, fun kV doc pm an cdv ct us hl => match us, hl with | [_], _ => rfl⟩
end NM.Cl
end

section
set_option linter.all false
set_option maxHeartbeats 4000000
set_option maxRecDepth 100000
set_option Elab.async false
set_option autoImplicit false
/-! k01: the law, on plain data -/
namespace NM.Cl
open PySem L2 NM NM.Dw
theorem p_start : P.fn "_law_start" = some ⟨1, 3, bStart, true⟩ := by rfl
theorem p_pull : P.fn "_law_pull" = some ⟨2, 5, bPull, false⟩ := by rfl
theorem p_pick : P.fn "_law_pick" = some ⟨2, 2, bPick, false⟩ := by rfl
theorem p_odd : P.fn "_law_odd" = some ⟨2, 2, b34, false⟩ := by rfl
theorem p_law : P.fn "law" = some ⟨1, 11, b42, false⟩ := by rfl
def ssTake : Nat → Ss → Ss
  | 0, _ => .nil
  | n + 1, .cons st ss => .cons st (ssTake n ss)
  | _, .nil => .nil
def ssDrop : Nat → Ss → Ss
  | 0, ss => ss
  | n + 1, .cons _ ss => ssDrop n ss
  | _, .nil => .nil
theorem ob_assoc {o : O} {f g : NM.Env → S → O} : O.bind (O.bind o f) g = O.bind o fun ρ s => O.bind (f ρ s) g := by cases o <;> rfl
theorem exs_split (c : Cxt) : ∀ (n : Nat) (ss : Ss) (ρ : NM.Env) (s : S), exs c ss ρ s = (exs c (ssTake n ss) ρ s).bind fun ρ s => exs c (ssDrop n ss) ρ s
  | 0, ss, ρ, s => by simp only [ssTake, ssDrop, exs, ob_nx]
  | n + 1, .cons st ss, ρ, s => by
    simp only [ssTake, ssDrop, exs]
    rw [ob_assoc]
    congr 1
    funext ρ' s'
    exact exs_split c n ss ρ' s'
  | n + 1, .nil, ρ, s => by simp only [ssTake, ssDrop, exs, ob_nx]
def cP : Cxt := P.ctx (run P 8)
def excD (q : Str × Option Str) (d : D) : D := .exc q.1 (match q.2 with
  | some p => [(p, d), ("code", .str q.1)]
  | none => [("code", .str q.1)])
def madeL (d : D) : List D := exsA.map fun q => excD q d
def codesL : List D := exsA.map fun q => .str q.1
def eAt (k : Nat) (d : D) : D := (madeL d).getD k .non
def kindsD (k : Nat) : D := .lst ((rngD 0 27).map fun j => .bl (match j with
  | .int i => decide (i = k)
  | _ => false))
def basesD (k : Nat) : D := .lst (if k = 26 then [.bl false, .bl false, .bl false, .bl true, .bl true] else if k < 24 then [.bl true, .bl true, .bl false, .bl false, .bl false] else [.bl false, .bl false, .bl true, .bl true, .bl false])
def ρ0 (sc d : D) : NM.Env := [some sc, some (.ref 0), some d, none, none, none, none, none, none, none, none]
def ρ1 (sc d : D) (a b c e f : Option D) : NM.Env := [some sc, some (.ref 0), some d, some (.lst codesL), some (.lst (madeL d)), a, b, c, none, e, f]
def lawBody : Ss := match ssH (ssT (ssT (ssT b42))) with
  | .for _ _ b => b
  | _ => .nil
section
variable {sc d : D} {cells : List Int} {i r m t : Int} {b c e f : Option D}
theorem par_ok : ex cP (ssH (ssT (ssT b42))) (ρ0 sc d) (bag cells i r m t) = .nx (ρ1 sc d none none none none none) (bag cells i r m t) := by kernel_rfl
def ρ8 (sc d : D) (k : Nat) : NM.Env := ρ1 sc d (some (.int k)) (some (eAt k d)) (some (kindsD k)) (some (basesD k)) (some (basesD k))
theorem sa0 : exs cP (ssTake 8 lawBody) (ρ1 sc d (some (.int 0)) b c e f) (bag cells i r m t) = .nx (ρ8 sc d 0) (bag cells i r m t) := by kernel_rfl
theorem sa1 : exs cP (ssTake 8 lawBody) (ρ1 sc d (some (.int 1)) b c e f) (bag cells i r m t) = .nx (ρ8 sc d 1) (bag cells i r m t) := by kernel_rfl
theorem sa2 : exs cP (ssTake 8 lawBody) (ρ1 sc d (some (.int 2)) b c e f) (bag cells i r m t) = .nx (ρ8 sc d 2) (bag cells i r m t) := by kernel_rfl
theorem sa3 : exs cP (ssTake 8 lawBody) (ρ1 sc d (some (.int 3)) b c e f) (bag cells i r m t) = .nx (ρ8 sc d 3) (bag cells i r m t) := by kernel_rfl
theorem sa4 : exs cP (ssTake 8 lawBody) (ρ1 sc d (some (.int 4)) b c e f) (bag cells i r m t) = .nx (ρ8 sc d 4) (bag cells i r m t) := by kernel_rfl
theorem sa5 : exs cP (ssTake 8 lawBody) (ρ1 sc d (some (.int 5)) b c e f) (bag cells i r m t) = .nx (ρ8 sc d 5) (bag cells i r m t) := by kernel_rfl
theorem sa6 : exs cP (ssTake 8 lawBody) (ρ1 sc d (some (.int 6)) b c e f) (bag cells i r m t) = .nx (ρ8 sc d 6) (bag cells i r m t) := by kernel_rfl
theorem sa7 : exs cP (ssTake 8 lawBody) (ρ1 sc d (some (.int 7)) b c e f) (bag cells i r m t) = .nx (ρ8 sc d 7) (bag cells i r m t) := by kernel_rfl
theorem sa8 : exs cP (ssTake 8 lawBody) (ρ1 sc d (some (.int 8)) b c e f) (bag cells i r m t) = .nx (ρ8 sc d 8) (bag cells i r m t) := by kernel_rfl
theorem sa9 : exs cP (ssTake 8 lawBody) (ρ1 sc d (some (.int 9)) b c e f) (bag cells i r m t) = .nx (ρ8 sc d 9) (bag cells i r m t) := by kernel_rfl
theorem sa10 : exs cP (ssTake 8 lawBody) (ρ1 sc d (some (.int 10)) b c e f) (bag cells i r m t) = .nx (ρ8 sc d 10) (bag cells i r m t) := by kernel_rfl
theorem sa11 : exs cP (ssTake 8 lawBody) (ρ1 sc d (some (.int 11)) b c e f) (bag cells i r m t) = .nx (ρ8 sc d 11) (bag cells i r m t) := by kernel_rfl
theorem sa12 : exs cP (ssTake 8 lawBody) (ρ1 sc d (some (.int 12)) b c e f) (bag cells i r m t) = .nx (ρ8 sc d 12) (bag cells i r m t) := by kernel_rfl
theorem sa13 : exs cP (ssTake 8 lawBody) (ρ1 sc d (some (.int 13)) b c e f) (bag cells i r m t) = .nx (ρ8 sc d 13) (bag cells i r m t) := by kernel_rfl
theorem sa14 : exs cP (ssTake 8 lawBody) (ρ1 sc d (some (.int 14)) b c e f) (bag cells i r m t) = .nx (ρ8 sc d 14) (bag cells i r m t) := by kernel_rfl
theorem sa15 : exs cP (ssTake 8 lawBody) (ρ1 sc d (some (.int 15)) b c e f) (bag cells i r m t) = .nx (ρ8 sc d 15) (bag cells i r m t) := by kernel_rfl
theorem sa16 : exs cP (ssTake 8 lawBody) (ρ1 sc d (some (.int 16)) b c e f) (bag cells i r m t) = .nx (ρ8 sc d 16) (bag cells i r m t) := by kernel_rfl
theorem sa17 : exs cP (ssTake 8 lawBody) (ρ1 sc d (some (.int 17)) b c e f) (bag cells i r m t) = .nx (ρ8 sc d 17) (bag cells i r m t) := by kernel_rfl
theorem sa18 : exs cP (ssTake 8 lawBody) (ρ1 sc d (some (.int 18)) b c e f) (bag cells i r m t) = .nx (ρ8 sc d 18) (bag cells i r m t) := by kernel_rfl
theorem sa19 : exs cP (ssTake 8 lawBody) (ρ1 sc d (some (.int 19)) b c e f) (bag cells i r m t) = .nx (ρ8 sc d 19) (bag cells i r m t) := by kernel_rfl
theorem sa20 : exs cP (ssTake 8 lawBody) (ρ1 sc d (some (.int 20)) b c e f) (bag cells i r m t) = .nx (ρ8 sc d 20) (bag cells i r m t) := by kernel_rfl
theorem sa21 : exs cP (ssTake 8 lawBody) (ρ1 sc d (some (.int 21)) b c e f) (bag cells i r m t) = .nx (ρ8 sc d 21) (bag cells i r m t) := by kernel_rfl
theorem sa22 : exs cP (ssTake 8 lawBody) (ρ1 sc d (some (.int 22)) b c e f) (bag cells i r m t) = .nx (ρ8 sc d 22) (bag cells i r m t) := by kernel_rfl
theorem sa23 : exs cP (ssTake 8 lawBody) (ρ1 sc d (some (.int 23)) b c e f) (bag cells i r m t) = .nx (ρ8 sc d 23) (bag cells i r m t) := by kernel_rfl
theorem sa24 : exs cP (ssTake 8 lawBody) (ρ1 sc d (some (.int 24)) b c e f) (bag cells i r m t) = .nx (ρ8 sc d 24) (bag cells i r m t) := by kernel_rfl
theorem sa25 : exs cP (ssTake 8 lawBody) (ρ1 sc d (some (.int 25)) b c e f) (bag cells i r m t) = .nx (ρ8 sc d 25) (bag cells i r m t) := by kernel_rfl
theorem sa26 : exs cP (ssTake 8 lawBody) (ρ1 sc d (some (.int 26)) b c e f) (bag cells i r m t) = .nx (ρ8 sc d 26) (bag cells i r m t) := by kernel_rfl
def lastS : St := ssH (ssDrop 8 lawBody)
def lastA : C := match lastS with
  | .ite (.and a _) _ _ => a
  | _ => .yes
def lastEs : Es := match lastS with
  | .ite (.and _ (.not (.val (.call _ es)))) _ _ => es
  | _ => .nil
theorem last_eq {ρ : NM.Env} {s : S} : exs cP (ssDrop 8 lawBody) ρ s = (R.out (R.bind (evC cP lastA ρ s) fun k s1 => if k then R.bind (R.bind (R.bind (evs cP lastEs ρ s1) fun ds s1 => run P 8 "_law_same" ds s1) fun d s1 => lift (truD (look s1 d)) s1) fun k s1 => .ok (!k) s1 else .ok false s1) fun k s1 => if k then .rt (.bl false) s1 else .nx ρ s1).bind fun ρ s => .nx ρ s := by kernel_rfl
theorem last_ok {k : Nat} (hs : run P 8 "_law_same" [d, d] (bag cells i r m t) = .ok (.bl true) (bag cells i r m t)) (h1 : evC cP lastA (ρ8 sc d k) (bag cells i r m t) = .ok true (bag cells i r m t)) (h2 : evs cP lastEs (ρ8 sc d k) (bag cells i r m t) = .ok [d, d] (bag cells i r m t)) :
    exs cP (ssDrop 8 lawBody) (ρ8 sc d k) (bag cells i r m t) = .nx (ρ8 sc d k) (bag cells i r m t) := by
  rw [last_eq, h1]
  simp only [rb_ok, if_true, h2, hs]
  rfl
theorem sb0 (hs : run P 8 "_law_same" [d, d] (bag cells i r m t) = .ok (.bl true) (bag cells i r m t)) : exs cP (ssDrop 8 lawBody) (ρ8 sc d 0) (bag cells i r m t) = .nx (ρ8 sc d 0) (bag cells i r m t) := last_ok hs (by kernel_rfl) (by kernel_rfl)
theorem sb1 (hs : run P 8 "_law_same" [d, d] (bag cells i r m t) = .ok (.bl true) (bag cells i r m t)) : exs cP (ssDrop 8 lawBody) (ρ8 sc d 1) (bag cells i r m t) = .nx (ρ8 sc d 1) (bag cells i r m t) := last_ok hs (by kernel_rfl) (by kernel_rfl)
theorem sb2 (hs : run P 8 "_law_same" [d, d] (bag cells i r m t) = .ok (.bl true) (bag cells i r m t)) : exs cP (ssDrop 8 lawBody) (ρ8 sc d 2) (bag cells i r m t) = .nx (ρ8 sc d 2) (bag cells i r m t) := last_ok hs (by kernel_rfl) (by kernel_rfl)
theorem sb3 (hs : run P 8 "_law_same" [d, d] (bag cells i r m t) = .ok (.bl true) (bag cells i r m t)) : exs cP (ssDrop 8 lawBody) (ρ8 sc d 3) (bag cells i r m t) = .nx (ρ8 sc d 3) (bag cells i r m t) := last_ok hs (by kernel_rfl) (by kernel_rfl)
theorem sb4 (hs : run P 8 "_law_same" [d, d] (bag cells i r m t) = .ok (.bl true) (bag cells i r m t)) : exs cP (ssDrop 8 lawBody) (ρ8 sc d 4) (bag cells i r m t) = .nx (ρ8 sc d 4) (bag cells i r m t) := last_ok hs (by kernel_rfl) (by kernel_rfl)
theorem sb5 (hs : run P 8 "_law_same" [d, d] (bag cells i r m t) = .ok (.bl true) (bag cells i r m t)) : exs cP (ssDrop 8 lawBody) (ρ8 sc d 5) (bag cells i r m t) = .nx (ρ8 sc d 5) (bag cells i r m t) := last_ok hs (by kernel_rfl) (by kernel_rfl)
theorem sb6 (hs : run P 8 "_law_same" [d, d] (bag cells i r m t) = .ok (.bl true) (bag cells i r m t)) : exs cP (ssDrop 8 lawBody) (ρ8 sc d 6) (bag cells i r m t) = .nx (ρ8 sc d 6) (bag cells i r m t) := last_ok hs (by kernel_rfl) (by kernel_rfl)
theorem sb7 (hs : run P 8 "_law_same" [d, d] (bag cells i r m t) = .ok (.bl true) (bag cells i r m t)) : exs cP (ssDrop 8 lawBody) (ρ8 sc d 7) (bag cells i r m t) = .nx (ρ8 sc d 7) (bag cells i r m t) := last_ok hs (by kernel_rfl) (by kernel_rfl)
theorem sb8 (hs : run P 8 "_law_same" [d, d] (bag cells i r m t) = .ok (.bl true) (bag cells i r m t)) : exs cP (ssDrop 8 lawBody) (ρ8 sc d 8) (bag cells i r m t) = .nx (ρ8 sc d 8) (bag cells i r m t) := last_ok hs (by kernel_rfl) (by kernel_rfl)
theorem sb9 (hs : run P 8 "_law_same" [d, d] (bag cells i r m t) = .ok (.bl true) (bag cells i r m t)) : exs cP (ssDrop 8 lawBody) (ρ8 sc d 9) (bag cells i r m t) = .nx (ρ8 sc d 9) (bag cells i r m t) := last_ok hs (by kernel_rfl) (by kernel_rfl)
theorem sb10 (hs : run P 8 "_law_same" [d, d] (bag cells i r m t) = .ok (.bl true) (bag cells i r m t)) : exs cP (ssDrop 8 lawBody) (ρ8 sc d 10) (bag cells i r m t) = .nx (ρ8 sc d 10) (bag cells i r m t) := last_ok hs (by kernel_rfl) (by kernel_rfl)
theorem sb11 (hs : run P 8 "_law_same" [d, d] (bag cells i r m t) = .ok (.bl true) (bag cells i r m t)) : exs cP (ssDrop 8 lawBody) (ρ8 sc d 11) (bag cells i r m t) = .nx (ρ8 sc d 11) (bag cells i r m t) := last_ok hs (by kernel_rfl) (by kernel_rfl)
theorem sb12 (hs : run P 8 "_law_same" [d, d] (bag cells i r m t) = .ok (.bl true) (bag cells i r m t)) : exs cP (ssDrop 8 lawBody) (ρ8 sc d 12) (bag cells i r m t) = .nx (ρ8 sc d 12) (bag cells i r m t) := last_ok hs (by kernel_rfl) (by kernel_rfl)
theorem sb13 (hs : run P 8 "_law_same" [d, d] (bag cells i r m t) = .ok (.bl true) (bag cells i r m t)) : exs cP (ssDrop 8 lawBody) (ρ8 sc d 13) (bag cells i r m t) = .nx (ρ8 sc d 13) (bag cells i r m t) := last_ok hs (by kernel_rfl) (by kernel_rfl)
theorem sb14 (hs : run P 8 "_law_same" [d, d] (bag cells i r m t) = .ok (.bl true) (bag cells i r m t)) : exs cP (ssDrop 8 lawBody) (ρ8 sc d 14) (bag cells i r m t) = .nx (ρ8 sc d 14) (bag cells i r m t) := last_ok hs (by kernel_rfl) (by kernel_rfl)
theorem sb15 (hs : run P 8 "_law_same" [d, d] (bag cells i r m t) = .ok (.bl true) (bag cells i r m t)) : exs cP (ssDrop 8 lawBody) (ρ8 sc d 15) (bag cells i r m t) = .nx (ρ8 sc d 15) (bag cells i r m t) := last_ok hs (by kernel_rfl) (by kernel_rfl)
theorem sb16 (hs : run P 8 "_law_same" [d, d] (bag cells i r m t) = .ok (.bl true) (bag cells i r m t)) : exs cP (ssDrop 8 lawBody) (ρ8 sc d 16) (bag cells i r m t) = .nx (ρ8 sc d 16) (bag cells i r m t) := last_ok hs (by kernel_rfl) (by kernel_rfl)
theorem sb17 : exs cP (ssDrop 8 lawBody) (ρ8 sc d 17) (bag cells i r m t) = .nx (ρ8 sc d 17) (bag cells i r m t) := by kernel_rfl
theorem sb18 (hs : run P 8 "_law_same" [d, d] (bag cells i r m t) = .ok (.bl true) (bag cells i r m t)) : exs cP (ssDrop 8 lawBody) (ρ8 sc d 18) (bag cells i r m t) = .nx (ρ8 sc d 18) (bag cells i r m t) := last_ok hs (by kernel_rfl) (by kernel_rfl)
theorem sb19 (hs : run P 8 "_law_same" [d, d] (bag cells i r m t) = .ok (.bl true) (bag cells i r m t)) : exs cP (ssDrop 8 lawBody) (ρ8 sc d 19) (bag cells i r m t) = .nx (ρ8 sc d 19) (bag cells i r m t) := last_ok hs (by kernel_rfl) (by kernel_rfl)
theorem sb20 (hs : run P 8 "_law_same" [d, d] (bag cells i r m t) = .ok (.bl true) (bag cells i r m t)) : exs cP (ssDrop 8 lawBody) (ρ8 sc d 20) (bag cells i r m t) = .nx (ρ8 sc d 20) (bag cells i r m t) := last_ok hs (by kernel_rfl) (by kernel_rfl)
theorem sb21 (hs : run P 8 "_law_same" [d, d] (bag cells i r m t) = .ok (.bl true) (bag cells i r m t)) : exs cP (ssDrop 8 lawBody) (ρ8 sc d 21) (bag cells i r m t) = .nx (ρ8 sc d 21) (bag cells i r m t) := last_ok hs (by kernel_rfl) (by kernel_rfl)
theorem sb22 (hs : run P 8 "_law_same" [d, d] (bag cells i r m t) = .ok (.bl true) (bag cells i r m t)) : exs cP (ssDrop 8 lawBody) (ρ8 sc d 22) (bag cells i r m t) = .nx (ρ8 sc d 22) (bag cells i r m t) := last_ok hs (by kernel_rfl) (by kernel_rfl)
theorem sb23 (hs : run P 8 "_law_same" [d, d] (bag cells i r m t) = .ok (.bl true) (bag cells i r m t)) : exs cP (ssDrop 8 lawBody) (ρ8 sc d 23) (bag cells i r m t) = .nx (ρ8 sc d 23) (bag cells i r m t) := last_ok hs (by kernel_rfl) (by kernel_rfl)
theorem sb24 (hs : run P 8 "_law_same" [d, d] (bag cells i r m t) = .ok (.bl true) (bag cells i r m t)) : exs cP (ssDrop 8 lawBody) (ρ8 sc d 24) (bag cells i r m t) = .nx (ρ8 sc d 24) (bag cells i r m t) := last_ok hs (by kernel_rfl) (by kernel_rfl)
theorem sb25 (hs : run P 8 "_law_same" [d, d] (bag cells i r m t) = .ok (.bl true) (bag cells i r m t)) : exs cP (ssDrop 8 lawBody) (ρ8 sc d 25) (bag cells i r m t) = .nx (ρ8 sc d 25) (bag cells i r m t) := last_ok hs (by kernel_rfl) (by kernel_rfl)
theorem sb26 : exs cP (ssDrop 8 lawBody) (ρ8 sc d 26) (bag cells i r m t) = .nx (ρ8 sc d 26) (bag cells i r m t) := by kernel_rfl
theorem step (hs : run P 8 "_law_same" [d, d] (bag cells i r m t) = .ok (.bl true) (bag cells i r m t)) : ∀ k : Nat, k < 27 → ∀ b c e f, exs cP lawBody (ρ1 sc d (some (.int k)) b c e f) (bag cells i r m t) = .nx (ρ8 sc d k) (bag cells i r m t) := by
  intro k hk b c e f
  rw [exs_split cP 8]
  match k, hk with
  | 0, _ => exact (congrArg (fun o => O.bind o fun ρ s => exs cP (ssDrop 8 lawBody) ρ s) sa0).trans (sb0 hs)
  | 1, _ => exact (congrArg (fun o => O.bind o fun ρ s => exs cP (ssDrop 8 lawBody) ρ s) sa1).trans (sb1 hs)
  | 2, _ => exact (congrArg (fun o => O.bind o fun ρ s => exs cP (ssDrop 8 lawBody) ρ s) sa2).trans (sb2 hs)
  | 3, _ => exact (congrArg (fun o => O.bind o fun ρ s => exs cP (ssDrop 8 lawBody) ρ s) sa3).trans (sb3 hs)
  | 4, _ => exact (congrArg (fun o => O.bind o fun ρ s => exs cP (ssDrop 8 lawBody) ρ s) sa4).trans (sb4 hs)
  | 5, _ => exact (congrArg (fun o => O.bind o fun ρ s => exs cP (ssDrop 8 lawBody) ρ s) sa5).trans (sb5 hs)
  | 6, _ => exact (congrArg (fun o => O.bind o fun ρ s => exs cP (ssDrop 8 lawBody) ρ s) sa6).trans (sb6 hs)
  | 7, _ => exact (congrArg (fun o => O.bind o fun ρ s => exs cP (ssDrop 8 lawBody) ρ s) sa7).trans (sb7 hs)
  | 8, _ => exact (congrArg (fun o => O.bind o fun ρ s => exs cP (ssDrop 8 lawBody) ρ s) sa8).trans (sb8 hs)
  | 9, _ => exact (congrArg (fun o => O.bind o fun ρ s => exs cP (ssDrop 8 lawBody) ρ s) sa9).trans (sb9 hs)
  | 10, _ => exact (congrArg (fun o => O.bind o fun ρ s => exs cP (ssDrop 8 lawBody) ρ s) sa10).trans (sb10 hs)
  | 11, _ => exact (congrArg (fun o => O.bind o fun ρ s => exs cP (ssDrop 8 lawBody) ρ s) sa11).trans (sb11 hs)
  | 12, _ => exact (congrArg (fun o => O.bind o fun ρ s => exs cP (ssDrop 8 lawBody) ρ s) sa12).trans (sb12 hs)
  | 13, _ => exact (congrArg (fun o => O.bind o fun ρ s => exs cP (ssDrop 8 lawBody) ρ s) sa13).trans (sb13 hs)
  | 14, _ => exact (congrArg (fun o => O.bind o fun ρ s => exs cP (ssDrop 8 lawBody) ρ s) sa14).trans (sb14 hs)
  | 15, _ => exact (congrArg (fun o => O.bind o fun ρ s => exs cP (ssDrop 8 lawBody) ρ s) sa15).trans (sb15 hs)
  | 16, _ => exact (congrArg (fun o => O.bind o fun ρ s => exs cP (ssDrop 8 lawBody) ρ s) sa16).trans (sb16 hs)
  | 17, _ => exact (congrArg (fun o => O.bind o fun ρ s => exs cP (ssDrop 8 lawBody) ρ s) sa17).trans sb17
  | 18, _ => exact (congrArg (fun o => O.bind o fun ρ s => exs cP (ssDrop 8 lawBody) ρ s) sa18).trans (sb18 hs)
  | 19, _ => exact (congrArg (fun o => O.bind o fun ρ s => exs cP (ssDrop 8 lawBody) ρ s) sa19).trans (sb19 hs)
  | 20, _ => exact (congrArg (fun o => O.bind o fun ρ s => exs cP (ssDrop 8 lawBody) ρ s) sa20).trans (sb20 hs)
  | 21, _ => exact (congrArg (fun o => O.bind o fun ρ s => exs cP (ssDrop 8 lawBody) ρ s) sa21).trans (sb21 hs)
  | 22, _ => exact (congrArg (fun o => O.bind o fun ρ s => exs cP (ssDrop 8 lawBody) ρ s) sa22).trans (sb22 hs)
  | 23, _ => exact (congrArg (fun o => O.bind o fun ρ s => exs cP (ssDrop 8 lawBody) ρ s) sa23).trans (sb23 hs)
  | 24, _ => exact (congrArg (fun o => O.bind o fun ρ s => exs cP (ssDrop 8 lawBody) ρ s) sa24).trans (sb24 hs)
  | 25, _ => exact (congrArg (fun o => O.bind o fun ρ s => exs cP (ssDrop 8 lawBody) ρ s) sa25).trans (sb25 hs)
  | 26, _ => exact (congrArg (fun o => O.bind o fun ρ s => exs cP (ssDrop 8 lawBody) ρ s) sa26).trans sb26
  | n + 27, hk => exact absurd hk (by omega)
theorem loop (hs : run P 8 "_law_same" [d, d] (bag cells i r m t) = .ok (.bl true) (bag cells i r m t)) : ∀ (n k : Nat), k + n = 27 → ∀ a b c e f, ∃ a' b' c' e' f', forGo (.v 5) (exs cP lawBody) (rngD k n) (ρ1 sc d a b c e f) (bag cells i r m t) = .nx (ρ1 sc d a' b' c' e' f') (bag cells i r m t)
  | 0, k, _, a, b, c, e, f => ⟨a, b, c, e, f, rfl⟩
  | n + 1, k, hk, a, b, c, e, f => by
    obtain ⟨a', b', c', e', f', q⟩ := loop hs n (k + 1) (by omega) (some (.int k)) (some (eAt k d)) (some (kindsD k)) (some (basesD k)) (some (basesD k))
    refine ⟨a', b', c', e', f', ?_⟩
    show (match exs cP lawBody (ρ1 sc d (some (.int k)) b c e f) (bag cells i r m t) with
      | .nx ρ2 s2 => forGo (.v 5) (exs cP lawBody) (rngD ((k : Int) + 1) n) ρ2 s2
      | .ct ρ2 s2 => forGo (.v 5) (exs cP lawBody) (rngD ((k : Int) + 1) n) ρ2 s2
      | .bk ρ2 s2 => .nx ρ2 s2
      | o => o) = _
    rw [step hs k (by omega)]
    exact q
theorem rest_ok (hs : run P 8 "_law_same" [d, d] (bag cells i r m t) = .ok (.bl true) (bag cells i r m t)) : exs cP (ssT (ssT b42)) (ρ0 sc d) (bag cells i r m t) = .rt (.bl true) (bag cells i r m t) := by
  obtain ⟨a', b', c', e', f', q⟩ := loop (sc := sc) hs 27 0 rfl none none none none none
  have z : exs cP (ssT (ssT b42)) (ρ0 sc d) (bag cells i r m t) = (ex cP (ssH (ssT (ssT b42))) (ρ0 sc d) (bag cells i r m t)).bind fun ρ s => (forGo (.v 5) (exs cP lawBody) (rngD 0 27) ρ s).bind fun ρ s => exs cP (ssT (ssT (ssT (ssT b42)))) ρ s := by kernel_rfl
  rw [z, par_ok]
  show (forGo (.v 5) (exs cP lawBody) (rngD 0 27) (ρ1 sc d none none none none none) (bag cells i r m t)).bind _ = _
  have q' : forGo (.v 5) (exs cP lawBody) (rngD 0 27) (ρ1 sc d none none none none none) (bag cells i r m t) = .nx (ρ1 sc d a' b' c' e' f') (bag cells i r m t) := q
  rw [q']
  rfl
end
end NM.Cl
end

section
set_option linter.all false
set_option maxHeartbeats 4000000
set_option maxRecDepth 100000
set_option Elab.async false
set_option autoImplicit false
/-! k01: the law holds -/
namespace NM.Cl
open PySem L2 NM NM.Dw
theorem p_same : P.fn "_law_same" = some ⟨2, 4, b38, false⟩ := by rfl
def tenL : List D := [.non, .bl true, .bl false, .str "", .str "A", .int (-1), .tup [.int 1, .str "a"], .lst [.int 1], .tup [], .int 100000000000000000]
def moreL (v : Int) : List D := [.str "zz", .int v, .tup [.non, .tup [.int 2, .str "b"]]]
section
variable {cells : List Int} {i r m t v : Int} {d : D}
theorem same_int (n : Nat) : run P (n + 1) "_law_same" [.int v, .int v] (bag cells i r m t) = .ok (.bl true) (bag cells i r m t) := by
  rw [run_eq p_same rfl (by decide)]
  have z : exs (P.ctx (run P n)) b38 (start 4 [.int v, .int v]) (bag cells i r m t) = R.out (lift ((eqD (.int v) (.int v)).map .bl) (bag cells i r m t)) fun d s1 => .rt d s1 := by kernel_rfl
  show endR _ _ (exs (P.ctx (run P n)) b38 (start 4 [.int v, .int v]) (bag cells i r m t)) = _
  rw [z, eq_int, decide_eq_true (rfl : v = v)]
  rfl
theorem same_ok (h : d ∈ tenL ++ moreL v) : run P 8 "_law_same" [d, d] (bag cells i r m t) = .ok (.bl true) (bag cells i r m t) := by
  simp only [tenL, moreL, List.cons_append, List.nil_append, List.mem_cons, List.not_mem_nil, or_false] at h
  rcases h with rfl | rfl | rfl | rfl | rfl | rfl | rfl | rfl | rfl | rfl | rfl | rfl | rfl
  · kernel_rfl
  · kernel_rfl
  · kernel_rfl
  · kernel_rfl
  · kernel_rfl
  · kernel_rfl
  · kernel_rfl
  · kernel_rfl
  · kernel_rfl
  · kernel_rfl
  · kernel_rfl
  · exact same_int 7
  · kernel_rfl
theorem odd_run {s : S} (B : IsBag s) : ∃ d s', run P 8 "_law_odd" [.ref 0, .lst (moreL v)] s = .ok d s' ∧ IsBag s' ∧ d ∈ tenL ++ moreL v := by
  obtain ⟨d, s', e, B', h⟩ := pick_run p_pull p_pick 5 (xs := tenL ++ moreL v) B (by show 0 < 13; decide) (by show 13 < 1000000; decide)
  refine ⟨d, s', ?_, B', h⟩
  rw [run_eq p_odd rfl (by decide)]
  have z : exs (P.ctx (run P 7)) b34 (start 2 [.ref 0, .lst (moreL v)]) s = (R.out (run P 7 "_law_pick" [.ref 0, .lst (tenL ++ moreL v)] s) fun d s1 => .rt d s1).bind fun ρ s => .nx ρ s := by
    have a1 : ev (P.ctx (run P 7)) (.bin .Add (match b34 with
      | .cons (.ret (.call _ (.cons _ (.cons (.bin _ l _) _)))) _ => l
      | _ => .no) (.v 1)) (start 2 [.ref 0, .lst (moreL v)]) s = .ok (.lst (tenL ++ moreL v)) s := by kernel_rfl
    show (R.out (R.bind (R.bind (.ok (.ref 0) s) fun d s1 => R.bind (R.bind (ev (P.ctx (run P 7)) (.bin .Add (match b34 with
      | .cons (.ret (.call _ (.cons _ (.cons (.bin _ l _) _)))) _ => l
      | _ => .no) (.v 1)) (start 2 [.ref 0, .lst (moreL v)]) s1) fun d s1 => R.bind (.ok [] s1) fun ds s2 => .ok (d :: ds) s2) fun ds s2 => .ok (d :: ds) s2) fun ds s1 => run P 7 "_law_pick" ds s1) fun d s1 => .rt d s1).bind (fun ρ s => .nx ρ s) = _
    simp only [rb_ok, a1]
  show endR _ _ (exs (P.ctx (run P 7)) b34 (start 2 [.ref 0, .lst (moreL v)]) s) = _
  rw [z, e]
  exact end_rt (by rw [isBag_len B, isBag_len B'])
end
theorem law_run (ns : List Int) : run P 9 "law" [.scr (ns.map .int)] [] = .ok (.bl true) [] := by
  obtain ⟨s1, e1, B1⟩ := start_run p_start 7 ns
  obtain ⟨v, s2, e2, B2, _, _⟩ := pull_run p_pull 7 (many := 1000000000000000) B1 (by decide) (by decide)
  obtain ⟨d, s3, e3, B3, hd⟩ := odd_run (v := v) B2
  obtain ⟨cells, i, r, m, t, rfl, _⟩ := B3
  rw [run_eq p_law rfl (by decide)]
  have fin := rest_ok (sc := .scr (ns.map .int)) (d := d) (cells := cells) (i := i) (r := r) (m := m) (t := t) (same_ok hd)
  have c1 : exs cP b42 (start 11 [.scr (ns.map .int)]) [] = (R.out (run P 8 "_law_start" [.scr (ns.map .int)] []) fun d s => .nx [some (.scr (ns.map .int)), some d, none, none, none, none, none, none, none, none, none] s).bind fun ρ s => (ex cP (ssH (ssT b42)) ρ s).bind fun ρ s => exs cP (ssT (ssT b42)) ρ s := by kernel_rfl
  have h1 : cP.has "_law_pull" = true := by rfl
  have h2 : cP.has "_law_odd" = true := by rfl
  have h3 : cP.call = run P 8 := rfl
  have p15 : binD .Pow (.int 10) (.int 15) = some (.int 1000000000000000) := rfl
  have k2 : 2 ≤ line := by decide
  have k3 : 3 ≤ line := by decide
  have c2 : ex cP (ssH (ssT b42)) [some (.scr (ns.map .int)), some (.ref 0), none, none, none, none, none, none, none, none, none] s1 = .nx (ρ0 (.scr (ns.map .int)) d) (bag cells i r m t) := by
    have e3' : run P 8 "_law_odd" [.ref 0, .lst [.str "zz", .int v, .tup [.non, .tup [.int 2, .str "b"]]]] s2 = .ok d (bag cells i r m t) := e3
    simp only [b42, ssH, ssT, ex, ev, evs, h1, h2, h3, if_true, rb_ok, ro_ok, lift_some, List.getElem?_cons_zero, List.getElem?_cons_succ, lk_i, p15, e2, List.length_cons, List.length_nil, Nat.reduceAdd, Nat.zero_add, k2, k3, e3', T.set, Nat.reduceLT, List.set_cons_succ, List.set_cons_zero]
    rfl
  show endR _ _ (exs cP b42 (start 11 [.scr (ns.map .int)]) []) = _
  rw [c1, e1]
  show endR _ _ ((ex cP (ssH (ssT b42)) [some (.scr (ns.map .int)), some (.ref 0), none, none, none, none, none, none, none, none, none] s1).bind _) = _
  rw [c2]
  show endR _ _ (exs cP (ssT (ssT b42)) (ρ0 (.scr (ns.map .int)) d) (bag cells i r m t)) = _
  rw [fin]
  rfl
end NM.Cl
end

section
set_option Elab.async false
set_option linter.all false
set_option maxRecDepth 100000
set_option maxHeartbeats 0
set_option autoImplicit false
/-! the claim -/
namespace NM.Cl
open PySem PySem.W PySem.Spec PyProof.Rows L2 NM
theorem prg_ok : PrgOk hd P cc where
  con := fun _ => rfl
  par := fun _ => rfl
  sub := fun _ _ _ h => h
  fld := fun k f h => by
    have h' : (match exsA.lookup k with
      | some p => f == "code" || p == some f
      | none => false) = true := h
    cases q : exsA.lookup k with
    | none =>
      rw [q] at h'
      cases h'
    | some p =>
      rw [q] at h'
      refine ⟨p, q, ?_⟩
      rcases Bool.or_eq_true_iff.mp h' with z | z
      · exact .inl (beq_iff_eq.mp z)
      · exact .inr (beq_iff_eq.mp z)
  free := fun n hn => by
    simp only [List.mem_cons, List.not_mem_nil, or_false] at hn
    rcases hn with rfl | rfl | rfl | rfl | rfl | rfl | rfl | rfl | rfl | rfl | rfl | rfl | rfl | rfl | rfl | rfl | rfl <;> rfl
  ncode := fun k h => by
    have m := lookup_mem (show exsA.lookup k = some (some ("code" : Str)) from h)
    have a : (exsA.all fun q => decide (q.2 ≠ some ("code" : Str))) = true := by decide +kernel
    exact of_decide_eq_true (List.all_eq_true.mp a _ m) rfl
  names := fun k h => by
    have a : (hd.ex.all fun k => decide (tyT.lookup k = none ∧ k ≠ ("super" : Str))) = true := by decide +kernel
    exact of_decide_eq_true (List.all_eq_true.mp a k (List.contains_iff_mem.mp h))
  defs := fn_ok
  cls := fun k h => by
    have m : k ∈ hd.ex ++ (["int", "bool", "str", "list", "tuple", "ValueError", "LookupError", "IndexError"] : List Str) := List.contains_iff_mem.mp h
    rcases List.mem_append.mp m with m | m
    · exact .inl (List.contains_iff_mem.mpr m)
    · exact .inr m
  exs := fun _ _ h => h
theorem law_d : LawD hd cc ⟨1, 11, b42, false⟩ :=
  ⟨df42, by simp [hd], rfl, rfl, rfl, rfl, nm42, false, 200, ⟨rfl, rfl, rfl, by decide +kernel, rfl, by decide +kernel, by decide +kernel⟩, cp42_eq, rfl, rfl, fun kV doc pm an cdv ct us hl => match us, hl with | [_], _ => rfl⟩
theorem law_all (ns : List Int) : ∃ s', NM.run P 9 "law" [.scr (ns.map .int)] [] = .ok (.bl true) s' := ⟨_, law_run ns⟩
end NM.Cl
open PySem PySem.W PySem.Calls PyProof.Rows
theorem PySem.Challenge.cw_nightsmeet_k01_errors_by_themselves_holds : PySem.Challenge.rw_nightsmeet_k01_errors_by_themselves.Holds := by
  w_on; o_law
  refine HandSHeadRun.head_any (r := OpenLaw.row PySem.Challenge.rw_nightsmeet_k01_errors_by_themselves) (q := view (OpenLaw.row PySem.Challenge.rw_nightsmeet_k01_errors_by_themselves).prog [42]) (H := NM.Cl.hk) (ob := NM.Cl.ob) (M := 12000) (loose := NM.Cl.loose) (d := HandSHeadRun.topDef (OpenLaw.row PySem.Challenge.rw_nightsmeet_k01_errors_by_themselves).prog 42) (kwd := []) NM.Cl.ob_eq
    (by kernel_rfl) (fun s => by kernel_rfl) NM.Cl.hrun (by kernel_rfl) (by kernel_rfl) (by kernel_rfl) (by rfl) (by first | assumption | decide +kernel) (by decide +kernel) ⟨rfl, rfl, rfl, rfl, rfl, by decide +kernel⟩ ?hw ?hc
  case hw => w_witness2
  case hc =>
    refine L2.walk_ofE (l := PySem.Challenge.rw_nightsmeet_k01_errors_by_themselves) (n := 63) (k := 12) (x := "_law_script") (CX := L2.CX0) rfl (by decide) (by kernel_rfl) ⟨rfl, by decide, by decide⟩ ?F (fun _ _ _ _ z => z)
    intro w mg fa h Y G hmg0
    obtain ⟨K, KX, c⟩ := Y
    have hmg : mg ("law" : PySem.Str) = some (.ref fa) := by
      have e : (HandSHeadRun.topDef (OpenLaw.row PySem.Challenge.rw_nightsmeet_k01_errors_by_themselves).prog 42).name = ("law" : PySem.Str) := by kernel_rfl
      rw [← e]
      exact hmg0
    exact NM.law_facts c KX G NM.Cl.prg_ok rfl NM.Cl.law_d hmg NM.Cl.law_all
#print axioms PySem.Challenge.cw_nightsmeet_k01_errors_by_themselves_holds
end
