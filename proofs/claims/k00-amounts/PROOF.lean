import PyProof.Rows.All
import Wide.All
import OpenK.AllK
import Wide.FinOn
import PySem.Challenge.RW_takenforms_k00_amounts
import KE.KStateDown
import HandS.ForMost
import HandS.ForExc
import HandS.Wide
import HandS.Gcd
import HandS.HeadHook2
import HandS.IsInst
import HandS.Defaults
import HandS.CallSlots
import HandS.ExcIs
import HandS.HeadHook1
import HandS.TryOnly
import HandS.MakeKw
import HandS.Head0
import HandS.Head1
import HandS.Head2
import HandS.Head3
import HandS.HeadEnd
import HandS.EndBits
set_option Elab.async false
set_option linter.all false
set_option maxRecDepth 100000
set_option maxHeartbeats 2000000
/-! RA: a small language of its own (E, T, S), its values (D), its store, and what it computes (ev, exS). -/
namespace RI
open PySem L2
/-! ### values, objects, results -/
inductive D where
  | non | bl (b : Bool) | int (i : Int) | str (s : Str) | tup (l : List D) | ref (n : Nat)
inductive O where
  | lst (l : List D) | ro (l : List D) | dct (kvs : List (D × D)) | odc | ins (c : Str) (fs : List (Str × D))
abbrev Store := List O
/-- an exception: its class, its fields -/
structure Exn where
  cls : Str
  fs : List (Str × D)
/-- the exception classes that a program may raise: their names, which is below which -/
class Xs where
  names : List Str
  sub : Str → Str → Bool
inductive Res (α : Type) where
  | ok (a : α) (s : Store)
  | ex (x : Exn) (s : Store)
  | bad
abbrev M (α : Type) := Store → Res α
abbrev Env := List (Option D)
def ret {α : Type} (a : α) : M α := fun s => .ok a s
def bnd {α β : Type} (m : M α) (f : α → M β) : M β := fun s => match m s with
  | .ok a s' => f a s'
  | .ex x s' => .ex x s'
  | .bad => .bad
def badM {α : Type} : M α := fun _ => .bad
def ofO {α : Type} : Option α → M α
  | some a => ret a
  | none => badM
/-- a new object -/
def newO (o : O) : M D := fun s => .ok (.ref s.length) (s ++ [o])
/-! ### the language -/
inductive Bi where
  | len | abs | gcd | int | list | tuple
  deriving DecidableEq
inductive Mt where
  | append
  deriving DecidableEq
inductive Ty where
  | int | bool | str | tuple | list | dict
  deriving DecidableEq
mutual
inductive E where
  | c (d : D) | var (i : Nat) | glob (x : Str)
  | tup (es : Es) | lst (es : Es) | dic (es : Es)
  | bin (op : Operator) (a b : E) | neg (a : E)
  | cmp (op : CmpOp) (a b : E) | chn (op op' : CmpOp) (a b c : E)
  | and (a b : E) | or (a b : E) | not (a : E) | ite (c a b : E)
  | ix (a b : E) | sl (a : E) (lo hi : Es)
  | call (f : Str) (es : Es) | callk (f : Str) (es : Es) (ks : List Str) (kes : Es)
  | bi (f : Bi) (es : Es)
  | meth (a : E) (m : Mt) (es : Es)
  | isi (a : E) (t : Ty)
  | lc (elt : E) (tg : T) (it : I) (cond : Es) (own : List Nat)
  | exis (t : Str) | exfld (f : Str)
inductive Es where
  | nil | cons (e : E) (es : Es)
inductive T where
  | name (i : Nat) | tup (ts : Ts)
inductive Ts where
  | nil | cons (t : T) (ts : Ts)
inductive I where
  | seq (e : E) | rng1 (e : E) | rng2 (a b : E)
end
mutual
inductive S where
  | asg (t : T) (e : E) | seti (o i e : E) | aug (i : Nat) (op : Operator) (e : E)
  | expr (e : E) | ret (e : E) | retN | ife (c : E) (a b : Ss)
  | for (t : T) (it : I) (b : Ss) | whl (c : E) (b : Ss)
  | brk | cnt | pass | raise (c : Str) (es : Es)
  | try (b : Ss) (x : Str) (i : Option Nat) (suite : Ss)
inductive Ss where
  | nil | cons (s : S) (ss : Ss)
end
def Es.of : List E → Es
  | [] => .nil
  | e :: r => .cons e (Es.of r)
def Ts.of : List T → Ts
  | [] => .nil
  | e :: r => .cons e (Ts.of r)
def Ss.of : List S → Ss
  | [] => .nil
  | e :: r => .cons e (Ss.of r)
/-! ### operations -/
/-- the largest sequence -/
abbrev most : Nat := 16000000
/-- small enough for a product or a quotient -/
def fits (i : Int) : Prop := i.natAbs < 2 ^ 8000
instance (i : Int) : Decidable (fits i) := by unfold fits; exact inferInstance
def lstOf (s : Store) : D → Option (List D)
  | .ref n => (match s[n]? with
    | some (.lst l) => some l
    | some (.ro l) => some l
    | _ => none)
  | _ => none
def seqOf (s : Store) : D → Option (List D)
  | .tup l => some l
  | d => lstOf s d
def dctOf (s : Store) : D → Option (List (D × D))
  | .ref n => (match s[n]? with
    | some (.dct l) => some l
    | _ => none)
  | _ => none
def b2z (b : Bool) : Int := if b then 1 else 0
def binI (op : Operator) (i j : Int) : Option Int := match op with
  | .Add => some (i + j)
  | .Sub => some (i - j)
  | .Mult => if fits i ∧ fits j then some (i * j) else none
  | .FloorDiv => if j ≠ 0 ∧ fits j then some (i.fdiv j) else none
  | .Mod => if j ≠ 0 then some (i.fmod j) else none
  | .Pow => if 0 ≤ j ∧ j ≤ 4000 ∧ i.natAbs < 2 ^ 64 then some (i ^ j.toNat) else none
  | _ => none
def binD (op : Operator) (a b : D) : M D := match a, b with
  | .int i, .int j => ofO ((binI op i j).map D.int)
  | .str x, .str y => (match op with
    | .Add => if x.length + y.length ≤ most then ret (.str (x ++ y)) else badM
    | _ => badM)
  | .ref i, .ref j => fun s => (match op, s[i]?, s[j]? with
    | .Add, some (.lst l), some (.lst m) => if l.length + m.length ≤ most then .ok (.ref s.length) (s ++ [.lst (l ++ m)]) else .bad
    | _, _, _ => .bad)
  | _, _ => badM
/-- the value's truth -/
def tru (s : Store) : D → Option Bool
  | .non => some false
  | .bl b => some b
  | .int i => some (i != 0)
  | .str x => if x.length ≤ most then some ((x.length : Int) != 0) else none
  | d => (seqOf s d).map fun l => !l.isEmpty
def optAll {α : Type} : List (Option α) → Option (List α)
  | [] => some []
  | o :: r => (match o, optAll r with
    | some x, some xs => some (x :: xs)
    | _, _ => none)
/-- data as a whole, read off the store, to this depth -/
def dat (s : Store) : Nat → D → Option PyData
  | _, .non => some .none
  | _, .bl b => some (.bool b)
  | _, .int i => some (.int i)
  | _, .str x => some (.str x)
  | 0, _ => none
  | n + 1, .tup l => (optAll (l.map (dat s n))).map .tuple
  | n + 1, .ref k => (lstOf s (.ref k)).bind fun l => (optAll (l.map (dat s n))).map .list
def eqD (s : Store) (a b : D) : Option Bool := match dat s 64 a, dat s 64 b with
  | some x, some y => if SeqAt.shaped x = true ∧ SeqAt.shaped y = true then some (PyData.eqv x y) else none
  | _, _ => none
def isNon : D → Bool
  | .non => true
  | _ => false
/-- flat things, for in -/
def flatD : D → Bool
  | .non => true | .bl _ => true | .int _ => true | .str _ => true
  | _ => false
def toV : D → V
  | .non => .non | .bl b => .bl b | .int i => .int i | .str x => .str x
  | _ => .non
def inD (x : D) (l : List D) : Bool := inV (toV x) (l.map toV)
def cmpD (op : CmpOp) (a b : D) (s : Store) : Option Bool := match op with
  | .Eq => eqD s a b
  | .NotEq => (eqD s a b).map not
  | .Lt => (match a, b with
    | .int i, .int j => some (decide (i < j))
    | _, _ => none)
  | .LtE => (match a, b with
    | .int i, .int j => some (decide (i ≤ j))
    | _, _ => none)
  | .Gt => (match a, b with
    | .int i, .int j => some (decide (j < i))
    | _, _ => none)
  | .GtE => (match a, b with
    | .int i, .int j => some (decide (j ≤ i))
    | _, _ => none)
  | .Is => if isNon b then some (isNon a) else none
  | .IsNot => if isNon b then some (!isNon a) else none
  | .In => (match a, b with
    | .str i, .str j => some (!(Builtin.Str.occurrences j i 0 j.length 1).isEmpty)
    | _, _ => (seqOf s b).bind fun l => if flatD a = true ∧ l.all flatD = true then some (inD a l) else none)
  | .NotIn => (match a, b with
    | .str i, .str j => some (!(!(Builtin.Str.occurrences j i 0 j.length 1).isEmpty))
    | _, _ => (seqOf s b).bind fun l => if flatD a = true ∧ l.all flatD = true then some (!inD a l) else none)
def ixD (a b : D) (s : Store) : Option D := match b with
  | .int i => (match a with
    | .str x => if x.length ≤ most then (atI x.cps.toList i).map fun c => .str ⟨#[c]⟩ else none
    | _ => (seqOf s a).bind fun l => atI l i)
  | _ => none
def cutD {α : Type} (xs : List α) (lo hi : Option Int) : List α := (xs.drop (HT.sIx xs.length 0 lo)).take (HT.sIx xs.length xs.length hi - HT.sIx xs.length 0 lo)
def tyD (s : Store) (t : Ty) : D → Option Bool
  | .non => some false
  | .bl _ => some (decide (t = .bool) || decide (t = .int))
  | .int _ => some (decide (t = .int))
  | .str _ => some (decide (t = .str))
  | .tup _ => some (decide (t = .tuple))
  | .ref n => (match s[n]? with
    | some (.lst _) => some (decide (t = .list))
    | some (.dct _) => some (decide (t = .dict))
    | some .odc => some (decide (t = .dict))
    | _ => none)
def biD (f : Bi) (as : List D) : M D := fun s => match f, as with
  | .len, [.str x] => if x.length ≤ most then .ok (.int x.length) s else .bad
  | .len, [d] => (match seqOf s d with
    | some l => .ok (.int l.length) s
    | none => .bad)
  | .abs, [.int i] => .ok (.int (if i < 0 then -i else i)) s
  | .gcd, [.int i, .int j] => .ok (.int ((Nat.gcd i.natAbs j.natAbs : Nat) : Int)) s
  | .int, [.int i] => .ok (.int i) s
  | .int, [.bl b] => .ok (.int (if b then 1 else 0)) s
  | .list, [d] => (match seqOf s d with
    | some l => .ok (.ref s.length) (s ++ [.lst l])
    | none => .bad)
  | .tuple, [.tup l] => .ok (.tup l) s
  | .tuple, [d] => (match lstOf s d with
    | some l => .ok (.tup l) s
    | none => .bad)
  | _, _ => .bad
/-- is it what has such a method -/
def rcvOk (m : Mt) (s : Store) (d : D) : Bool := match m with
  | .append => (match d with
    | .ref n => (match s[n]? with
      | some (.lst _) => true
      | _ => false)
    | _ => false)
def mtD (m : Mt) (a : D) (as : List D) : M D := fun s => match m, a, as with
  | .append, .ref n, [d] => (match s[n]? with
    | some (.lst l) => if l.length ≤ most then .ok .non (s.set n (.lst (l ++ [d]))) else .bad
    | _ => .bad)
  | _, _, _ => .bad
/-! ### what it computes -/
structure Tb where
  call : Str → List D → M D
  callk : Str → List Str → List D → List D → M D
  gl : Str → Option D
  sub : Str → Str → Bool := fun _ _ => false
  /-- an exception that is being handled, where one stands in an except suite -/
  exn : Option Exn := none
/-- what a loop walks: its items, the lists that must stay as they are meanwhile -/
structure Walk where
  items : List D
  held : List (Nat × List D)
def Walk.ok (w : Walk) (s : Store) : Prop := ∀ p ∈ w.held, lstOf s (.ref p.1) = some p.2
noncomputable instance (w : Walk) (s : Store) : Decidable (w.ok s) := Classical.propDecidable _
def walkOf (s : Store) : D → Option Walk
  | .tup l => some ⟨l, []⟩
  | .ref n => (lstOf s (.ref n)).map fun l => ⟨l, [(n, l)]⟩
  | _ => none
def rngD (i j : Int) : Option Walk := if -(2 ^ 62) ≤ i ∧ i < 2 ^ 62 ∧ -(2 ^ 62) ≤ j ∧ j < 2 ^ 62 then some ⟨(List.range (j - i).toNat).map fun k => D.int (i + (k : Nat)), []⟩ else none
mutual
def asgT : T → D → Env → Store → Option Env
  | .name i, d, ρ, _ => some (ρ.set i (some d))
  | .tup ts, d, ρ, s => (seqOf s d).bind fun l => asgTs ts l ρ s
def asgTs : Ts → List D → Env → Store → Option Env
  | .nil, [], ρ, _ => some ρ
  | .cons t ts, d :: ds, ρ, s => (asgT t d ρ s).bind fun ρ' => asgTs ts ds ρ' s
  | .nil, _ :: _, _, _ => none
  | .cons _ _, [], _, _ => none
end
def wipeD (ρ : Env) : List Nat → Env
  | [] => ρ
  | v :: vs => (wipeD ρ vs).set v none
/-- a comprehension's turns; the list grows at n -/
noncomputable def lcL (w : Walk) (tg : T) (cond : Env → M Bool) (elt : Env → M D) (own : List Nat) (ρ : Env) (n : Nat) : List D → M Unit
  | [] => fun s => if w.ok s then .ok () s else .bad
  | d :: r => fun s => if w.ok s then (match asgT tg d (wipeD ρ own) s with
    | none => .bad
    | some ρ' => (match cond ρ' s with
      | .ok true s1 => (match elt ρ' s1 with
        | .ok x s2 => (match s2[n]? with
          | some (.lst acc) => if acc.length ≤ most then lcL w tg cond elt own ρ n r (s2.set n (.lst (acc ++ [x]))) else .bad
          | _ => .bad)
        | _ => .bad)
      | .ok false s1 => lcL w tg cond elt own ρ n r s1
      | _ => .bad)) else .bad
/-- a value, as a test -/
def truK (d : D) : M Bool := fun s => ofO (tru s d) s
def truM (m : M D) : M Bool := bnd m truK
def partK : List D → M (Option Int)
  | [] => ret none
  | [.int i] => ret (some i)
  | _ => badM
def tupK (ds : List D) : M D := if ds.length ≤ most then ret (.tup ds) else badM
def lstK (ds : List D) : M D := if ds.length ≤ most then newO (.lst ds) else badM
def negK : D → M D
  | .int i => ret (.int (-i))
  | _ => badM
def cmpB (op : CmpOp) (x y : D) : M Bool := fun s => ofO (cmpD op x y s) s
def blK (b : Bool) : M D := ret (.bl b)
def cmpK (op : CmpOp) (x y : D) : M D := bnd (cmpB op x y) blK
def ixK (x y : D) : M D := fun s => ofO (ixD x y s) s
def andK (m : M D) (x : D) : M D := bnd (truK x) fun k => if k = true then m else ret x
def orK (m : M D) (x : D) : M D := bnd (truK x) fun k => if k = true then ret x else m
def notK (b : Bool) : M D := ret (.bl (!b))
def slK (x : D) (l h : Option Int) : M D := fun s => match x with
  | .str z => if z.length ≤ most then .ok (.str (cutS z l h)) s else .bad
  | .tup xs => .ok (.tup (cutD xs l h)) s
  | d => (match lstOf s d with
    | some xs => .ok (.ref s.length) (s ++ [.lst (cutD xs l h)])
    | none => .bad)
/-- a display's keys: ints and texts -/
def keysOk : List D → Bool
  | [] => true
  | .int _ :: _ :: r => keysOk r
  | .str _ :: _ :: r => keysOk r
  | _ => false
/-- a display is filled; what it holds is not followed -/
def dicK (d : D) (ds : List D) : M D := fun s => match d with
  | .ref n => (match s[n]? with
    | some (.dct []) => if keysOk ds = true then .ok d (s.set n .odc) else .bad
    | _ => .bad)
  | _ => .bad
def isiK (t : Ty) (x : D) : M D := fun s => ofO ((tyD s t x).map D.bl) s
def rcvK (m : Mt) (x : D) : M Unit := fun s => if rcvOk m s x = true then .ok () s else .bad
def seqK (x : D) : M Walk := fun s => ofO (walkOf s x) s
def rng1K : D → M Walk
  | .int j => ofO (rngD 0 j)
  | _ => badM
def rng2K : D → D → M Walk
  | .int i, .int j => ofO (rngD i j)
  | _, _ => badM
noncomputable def lcK (tg : T) (cond : Env → M Bool) (elt : Env → M D) (own : List Nat) (ρ : Env) (w : Walk) : M D := fun s => match lcL w tg cond elt own ρ s.length w.items (s ++ [.lst []]) with
  | .ok _ s' => .ok (.ref s.length) s'
  | _ => .bad
mutual
noncomputable def ev (B : Tb) : E → Env → M D
  | .c d, _ => ret d
  | .var i, ρ => ofO (ρ[i]?.getD none)
  | .glob x, _ => ofO (B.gl x)
  | .tup es, ρ => bnd (evs B es ρ) tupK
  | .lst es, ρ => bnd (evs B es ρ) lstK
  | .dic es, ρ => bnd (newO (.dct [])) fun d => bnd (evs B es ρ) fun ds => dicK d ds
  | .bin op a b, ρ => bnd (ev B a ρ) fun x => bnd (ev B b ρ) fun y => binD op x y
  | .neg a, ρ => bnd (ev B a ρ) negK
  | .cmp op a b, ρ => bnd (ev B a ρ) fun x => bnd (ev B b ρ) fun y => cmpK op x y
  | .chn op op' a b c, ρ => bnd (ev B a ρ) fun x => bnd (ev B b ρ) fun y => bnd (cmpB op x y) fun k => if k = true then bnd (ev B c ρ) fun z => cmpK op' y z else ret (.bl false)
  | .and a b, ρ => bnd (ev B a ρ) fun x => andK (ev B b ρ) x
  | .or a b, ρ => bnd (ev B a ρ) fun x => orK (ev B b ρ) x
  | .not a, ρ => bnd (truM (ev B a ρ)) notK
  | .ite c a b, ρ => bnd (truM (ev B c ρ)) fun k => if k = true then ev B a ρ else ev B b ρ
  | .ix a b, ρ => bnd (ev B a ρ) fun x => bnd (ev B b ρ) fun y => ixK x y
  | .sl a lo hi, ρ => bnd (ev B a ρ) fun x => bnd (bnd (evs B lo ρ) partK) fun l => bnd (bnd (evs B hi ρ) partK) fun h => slK x l h
  | .call f es, ρ => bnd (evs B es ρ) fun ds => B.call f ds
  | .callk f es ks kes, ρ => bnd (evs B es ρ) fun ds => bnd (evs B kes ρ) fun ws => B.callk f ks ds ws
  | .bi f es, ρ => bnd (evs B es ρ) fun ds => biD f ds
  | .meth a m es, ρ => bnd (ev B a ρ) fun x => bnd (rcvK m x) fun _ => bnd (evs B es ρ) fun ds => mtD m x ds
  | .isi a t, ρ => bnd (ev B a ρ) fun x => isiK t x
  | .lc elt tg it cond own, ρ => bnd (evI B it ρ) fun w => lcK tg (fun ρ' => evC B cond ρ') (fun ρ' => ev B elt ρ') own ρ w
  | .exis t, _ => ofO (B.exn.bind fun x => if x.fs.isEmpty = true then some (.bl (B.sub x.cls t)) else none)
  | .exfld f, _ => ofO (B.exn.bind fun x => x.fs.lookup f)
noncomputable def evs (B : Tb) : Es → Env → M (List D)
  | .nil, _ => ret []
  | .cons e es, ρ => bnd (ev B e ρ) fun d => bnd (evs B es ρ) fun ds => ret (d :: ds)
/-- a comprehension's tests: none or one -/
noncomputable def evC (B : Tb) : Es → Env → M Bool
  | .nil, _ => ret true
  | .cons e _, ρ => truM (ev B e ρ)
noncomputable def evI (B : Tb) : I → Env → M Walk
  | .seq e, ρ => bnd (ev B e ρ) seqK
  | .rng1 e, ρ => bnd (ev B e ρ) rng1K
  | .rng2 a b, ρ => bnd (ev B a ρ) fun x => bnd (ev B b ρ) fun y => rng2K x y
end
/-! ### statements -/
inductive Fl where
  | nx (ρ : Env) (s : Store) | rt (d : D) (s : Store) | bk (ρ : Env) (s : Store) | ct (ρ : Env) (s : Store)
  | ex (x : Exn) (ρ : Env) (s : Store) | bad
def fin {α : Type} (ρ : Env) (r : Res α) (k : α → Store → Fl) : Fl := match r with
  | .ok a s => k a s
  | .ex x s => .ex x ρ s
  | .bad => .bad
noncomputable def forL (w : Walk) (tg : T) (body : Env → Store → Fl) : List D → Env → Store → Fl
  | [], ρ, s => if w.ok s then .nx ρ s else .bad
  | d :: r, ρ, s => if w.ok s then (match asgT tg d ρ s with
    | none => .bad
    | some ρ' => (match body ρ' s with
      | .nx ρ1 s1 => forL w tg body r ρ1 s1
      | .ct ρ1 s1 => forL w tg body r ρ1 s1
      | .bk ρ1 s1 => .nx ρ1 s1
      | .rt d s1 => .rt d s1
      | .ex x ρ1 s1 => .ex x ρ1 s1
      | .bad => .bad)) else .bad
/-- a while: at most so many turns -/
def whlL (c : Env → M Bool) (body : Env → Store → Fl) : Nat → Env → Store → Fl
  | 0, _, _ => .bad
  | n + 1, ρ, s => fin ρ (c ρ s) fun b s1 => if b then (match body ρ s1 with
      | .nx ρ1 s2 => whlL c body n ρ1 s2
      | .ct ρ1 s2 => whlL c body n ρ1 s2
      | .bk ρ1 s2 => .nx ρ1 s2
      | .rt d s2 => .rt d s2
      | .ex x ρ1 s2 => .ex x ρ1 s2
      | .bad => .bad) else .nx ρ s1
/-- the slot of an except clause's name, forgotten -/
def hideE : Option Nat → Env → Env
  | some i, ρ => ρ.set i none
  | none, ρ => ρ
def unslot (i : Option Nat) : Fl → Fl
  | .nx ρ s => .nx (hideE i ρ) s
  | .bk ρ s => .bk (hideE i ρ) s
  | .ct ρ s => .ct (hideE i ρ) s
  | .ex x ρ s => .bad
  | r => r
/-- turns of a while that are enough -/
def turns : Nat := 10 ^ 12
mutual
noncomputable def exS (B : Tb) : S → Env → Store → Fl
  | .asg t e, ρ, s => fin ρ (ev B e ρ s) fun d s1 => (match asgT t d ρ s1 with
    | some ρ' => .nx ρ' s1
    | none => .bad)
  | .seti o i e, ρ, s => fin ρ (ev B e ρ s) fun d s1 => fin ρ (ev B o ρ s1) fun x s2 => fin ρ (ev B i ρ s2) fun y s3 => (match x, y with
    | .ref n, .int k => (match s3[n]? with
      | some (.lst l) => (match ixN l.length k with
        | some j => .nx ρ (s3.set n (.lst (l.set j d)))
        | none => .bad)
      | _ => .bad)
    | _, _ => .bad)
  | .aug i op e, ρ, s => (match ρ[i]? with
    | some (some x) => fin ρ (ev B e ρ s) fun y s1 => (match x, y with
      | .int a, .int b => (match op with
        | .Add => .nx (ρ.set i (some (.int (a + b)))) s1
        | .Sub => .nx (ρ.set i (some (.int (a - b)))) s1
        | _ => .bad)
      | _, _ => .bad)
    | _ => .bad)
  | .expr e, ρ, s => fin ρ (ev B e ρ s) fun _ s1 => .nx ρ s1
  | .ret e, ρ, s => fin ρ (ev B e ρ s) fun d s1 => .rt d s1
  | .retN, _, s => .rt .non s
  | .ife c a b, ρ, s => fin ρ (truM (ev B c ρ) s) fun k s1 => if k then exSs B a ρ s1 else exSs B b ρ s1
  | .for t it b, ρ, s => fin ρ (evI B it ρ s) fun w s1 => forL w t (fun ρ' s' => exSs B b ρ' s') w.items ρ s1
  | .whl c b, ρ, s => whlL (fun ρ' => truM (ev B c ρ')) (fun ρ' s' => exSs B b ρ' s') turns ρ s
  | .brk, ρ, s => .bk ρ s
  | .cnt, ρ, s => .ct ρ s
  | .pass, ρ, s => .nx ρ s
  | .raise c es, ρ, s => (match es with
    | .nil => .ex ⟨c, []⟩ ρ s
    | _ => .bad)
  | .try b x i suite, ρ, s => (match exSs B b ρ s with
    | .ex e ρ1 s1 => if B.sub e.cls x = true then unslot i (exSs { B with exn := some e } suite (hideE i ρ1) s1) else .ex e ρ1 s1
    | r => r)
noncomputable def exSs (B : Tb) : Ss → Env → Store → Fl
  | .nil, ρ, s => .nx ρ s
  | .cons a r, ρ, s => (match exS B a ρ s with
    | .nx ρ1 s1 => exSs B r ρ1 s1
    | q => q)
end
/-- a def: its parameters, its names by slot, its body -/
structure Fd where
  nps : Nat
  nns : Nat
  body : Ss
def startD (n : Nat) (ds : List D) : Env := ds.map some ++ List.replicate (n - ds.length) none
noncomputable def runFd (B : Tb) (f : Fd) (ds : List D) : M D := fun s => if ds.length = f.nps then (match exSs B f.body (startD f.nns ds) s with
  | .nx _ s1 => .ok .non s1
  | .rt d s1 => .ok d s1
  | .ex x _ s1 => .ex x s1
  | _ => .bad) else .bad
end RI
set_option maxRecDepth 100000
set_option maxHeartbeats 4000000
/-! RB: how the language's values and store stand in the heap; what is wanted behind a computation. -/
namespace RI
open PySem L2
section
variable (K : PySem.W.Frag)
mutual
inductive RV (A : List Addr) (H : Hp) : V → D → Prop
  | non : RV A H .non .non
  | bl (b : Bool) : RV A H (.bl b) (.bl b)
  | int (i : Int) : RV A H (.int i) (.int i)
  | str (x : Str) : RV A H (.str x) (.str x)
  | tup {a : Addr} {xs : List V} {ds : List D} : SqT K H a xs → RVs A H xs ds → RV A H (.ref a) (.tup ds)
  | ref {n : Nat} {a : Addr} : A[n]? = some a → RV A H (.ref a) (.ref n)
inductive RVs (A : List Addr) (H : Hp) : List V → List D → Prop
  | nil : RVs A H [] []
  | cons {v : V} {vs : List V} {d : D} {ds : List D} : RV A H v d → RVs A H vs ds → RVs A H (v :: vs) (d :: ds)
end
/-- tuples and locked things stay -/
structure Kp (H H' : Hp) : Prop where
  tup : ∀ b xs, H b = some (.tup xs) → H' b = some (.tup xs)
  frz : ∀ b o u, H b = some (.frz o u) → H' b = some (.frz o u)
def Kp.refl (H : Hp) : Kp H H := ⟨fun _ _ h => h, fun _ _ _ h => h⟩
theorem Kp.trans {H H1 H2 : Hp} (a : Kp H H1) (b : Kp H1 H2) : Kp H H2 := ⟨fun x y h => b.tup _ _ (a.tup _ _ h), fun x y z h => b.frz _ _ _ (a.frz _ _ _ h)⟩
theorem Kp.new {H : Hp} {p : Addr} {o : HO} (h : H p = none) : Kp H (upd H p o) :=
  ⟨fun b xs q => by rw [upd_ne (ne_of_none q h)]; exact q, fun b o u q => by rw [upd_ne (ne_of_none q h)]; exact q⟩
theorem Kp.lst {H : Hp} {p : Addr} {xs ys : List V} (h : H p = some (.lst xs)) : Kp H (upd H p (.lst ys)) :=
  ⟨fun b xs q => by rw [upd_ne (ne_of q h (by intro z; cases z))]; exact q, fun b o u q => by rw [upd_ne (ne_of q h (by intro z; cases z))]; exact q⟩
/-- more addresses, the heap kept -/
structure Nx (A A' : List Addr) (H H' : Hp) : Prop where
  ext : ∃ t, A' = A ++ t
  kp : Kp H H'
theorem Nx.refl (A : List Addr) (H : Hp) : Nx A A H H := ⟨⟨[], by simp⟩, Kp.refl H⟩
theorem Nx.trans {A A1 A2 : List Addr} {H H1 H2 : Hp} (a : Nx A A1 H H1) (b : Nx A1 A2 H1 H2) : Nx A A2 H H2 := by
  obtain ⟨t, e⟩ := a.ext
  obtain ⟨u, e2⟩ := b.ext
  exact ⟨⟨t ++ u, by rw [e2, e, List.append_assoc]⟩, a.kp.trans b.kp⟩
theorem Nx.heap {A : List Addr} {H H' : Hp} (h : Kp H H') : Nx A A H H' := ⟨⟨[], by simp⟩, h⟩
theorem Nx.at_ {A A' : List Addr} {H H' : Hp} (x : Nx A A' H H') {n : Nat} {a : Addr} (h : A[n]? = some a) : A'[n]? = some a := by
  obtain ⟨t, e⟩ := x.ext
  rw [e, List.getElem?_append_left (List.getElem?_eq_some_iff.mp h).1]
  exact h
theorem Kp.sqt {H H' : Hp} (k : Kp H H') {a : Addr} {xs : List V} (h : SqT K H a xs) : SqT K H' a xs := by
  rcases h with (h | ⟨o, h⟩) | h
  · exact .inl (.inl (k.tup _ _ h))
  · exact .inl (.inr ⟨o, k.frz _ _ _ h⟩)
  · exact .inr h
variable {K}
mutual
theorem RV.mono {A A' : List Addr} {H H' : Hp} (x : Nx A A' H H') : ∀ {d : D} {v : V}, RV K A H v d → RV K A' H' v d
  | .non, _, h => by cases h; exact .non
  | .bl b, _, h => by cases h; exact .bl b
  | .int b, _, h => by cases h; exact .int b
  | .str b, _, h => by cases h; exact .str b
  | .tup ds, _, h => by
    cases h with
    | tup s r => exact .tup (x.kp.sqt K s) (RVs.mono x r)
  | .ref n, _, h => by
    cases h with
    | ref e => exact .ref (x.at_ e)
theorem RVs.mono {A A' : List Addr} {H H' : Hp} (x : Nx A A' H H') : ∀ {ds : List D} {vs : List V}, RVs K A H vs ds → RVs K A' H' vs ds
  | [], _, h => by cases h; exact .nil
  | d :: ds, _, h => by
    cases h with
    | cons r rs => exact .cons (RV.mono x r) (RVs.mono x rs)
end
variable {A A' : List Addr} {H H' : Hp}
theorem RVs.length : ∀ {ds : List D} {vs : List V}, RVs K A H vs ds → vs.length = ds.length
  | [], _, h => by cases h; rfl
  | d :: ds, _, h => by
    cases h with
    | cons r rs => simp [RVs.length rs]
theorem RVs.get : ∀ {ds : List D} {vs : List V} {i : Nat} {d : D}, RVs K A H vs ds → ds[i]? = some d → ∃ v, vs[i]? = some v ∧ RV K A H v d
  | [], _, _, _, h, e => by simp at e
  | d :: ds, _, 0, _, h, e => by
    cases h with
    | cons r rs =>
      simp at e
      subst e
      exact ⟨_, rfl, r⟩
  | d :: ds, _, i + 1, _, h, e => by
    cases h with
    | cons r rs =>
      obtain ⟨v, e1, r1⟩ := RVs.get (i := i) rs (by simpa using e)
      exact ⟨v, by simpa using e1, r1⟩
theorem RVs.append : ∀ {ds es : List D} {vs ws : List V}, RVs K A H vs ds → RVs K A H ws es → RVs K A H (vs ++ ws) (ds ++ es)
  | [], _, _, _, h, q => by cases h; exact q
  | d :: ds, _, _, _, h, q => by
    cases h with
    | cons r rs => exact .cons r (RVs.append rs q)
theorem RVs.take : ∀ {ds : List D} {vs : List V} (n : Nat), RVs K A H vs ds → RVs K A H (vs.take n) (ds.take n)
  | _, _, 0, h => by simpa using RVs.nil
  | [], _, n + 1, h => by cases h; exact .nil
  | d :: ds, _, n + 1, h => by
    cases h with
    | cons r rs => exact .cons r (RVs.take n rs)
theorem RVs.drop : ∀ {ds : List D} {vs : List V} (n : Nat), RVs K A H vs ds → RVs K A H (vs.drop n) (ds.drop n)
  | _, _, 0, h => h
  | [], _, n + 1, h => by cases h; exact .nil
  | d :: ds, _, n + 1, h => by
    cases h with
    | cons r rs => exact RVs.drop n rs
theorem RVs.set : ∀ {ds : List D} {vs : List V} (n : Nat) {v : V} {d : D}, RVs K A H vs ds → RV K A H v d → RVs K A H (vs.set n v) (ds.set n d)
  | [], _, _, _, _, h, q => by cases h; exact .nil
  | d :: ds, _, 0, _, _, h, q => by
    cases h with
    | cons r rs => exact .cons q rs
  | d :: ds, _, n + 1, _, _, h, q => by
    cases h with
    | cons r rs => exact .cons r (RVs.set n rs q)
theorem RVs.nil_iff {ds : List D} {vs : List V} (h : RVs K A H vs ds) : vs.isEmpty = ds.isEmpty := by
  cases h <;> rfl
/-- a list that is read alone: locked, or of the module's own -/
def RdL (K : PySem.W.Frag) (H : Hp) (a : Addr) (xs : List V) : Prop :=
  (∃ o, H a = some (.frz o (.lst xs))) ∨
    ∃ (o : Obj) (its : Array Value) (n : Nat), K.lookup a = some o ∧ o.cls = .type "list" ∧ o.dict = none ∧ o.data = .seq its n ∧ its.size ≤ sizeLine ∧ Vals xs its.toList
theorem RdL.sql {a : Addr} {xs : List V} (h : RdL K H a xs) : SqL K H a xs := by
  rcases h with ⟨o, h⟩ | h
  · exact .inl (.inr ⟨o, h⟩)
  · exact .inr h
/-- an object of the store, as it stands at a -/
def RO (K : PySem.W.Frag) (A : List Addr) (H : Hp) (a : Addr) : O → Prop
  | .lst l => ∃ xs, H a = some (.lst xs) ∧ RVs K A H xs l
  | .ro l => ∃ xs, RdL K H a xs ∧ RVs K A H xs l
  | .dct l => l = [] ∧ H a = some (.dK [])
  | .odc => ∃ ks, H a = some (.dK ks)
  | .ins _ _ => False
/-- may be changed -/
def mutO : O → Bool
  | .ro _ => false
  | _ => true
structure RS (K : PySem.W.Frag) (A : List Addr) (H : Hp) (s : Store) : Prop where
  len : A.length = s.length
  inj : ∀ (n m : Nat) (a : Addr) (o p : O), A[n]? = some a → A[m]? = some a → s[n]? = some o → s[m]? = some p → mutO o = true → mutO p = true → n = m
  at_ : ∀ (n : Nat) (a : Addr) (o : O), A[n]? = some a → s[n]? = some o → RO K A H a o
theorem RS.addr {s : Store} (r : RS K A H s) {n : Nat} {o : O} (h : s[n]? = some o) : ∃ a, A[n]? = some a ∧ RO K A H a o := by
  have hl : n < A.length := by rw [r.len]; exact (List.getElem?_eq_some_iff.mp h).1
  exact ⟨A[n], by simp [hl], r.at_ n _ o (by simp [hl]) h⟩
theorem RO.there {a : Addr} {o : O} (h : RO K A H a o) (m : mutO o = true) : H a ≠ none := by
  cases o with
  | lst l => obtain ⟨xs, e, _⟩ := h; rw [e]; simp
  | ro l => cases m
  | dct l => obtain ⟨_, e⟩ := h; rw [e]; simp
  | odc => obtain ⟨ks, e⟩ := h; rw [e]; simp
  | ins _ _ => exact h.elim
theorem RdL.keep {a : Addr} {xs : List V} (k : Kp H H') (h : RdL K H a xs) : RdL K H' a xs := by
  rcases h with ⟨o, h⟩ | h
  · exact .inl ⟨o, k.frz _ _ _ h⟩
  · exact .inr h
/-- all that is tracked stays -/
theorem same_kp (h : Same H H') : Kp H H' := ⟨fun b xs q => h _ _ q, fun b o u q => h _ _ q⟩
theorem same_new {p : Addr} {o : HO} (h : H p = none) : Same H (upd H p o) := fun b u q => by rw [upd_ne (ne_of_none q h)]; exact q
theorem RO.mono {a : Addr} {o : O} (h : RO K A H a o) (e : ∃ t, A' = A ++ t) (k : Same H H') : RO K A' H' a o := by
  have nx : Nx A A' H H' := ⟨e, same_kp k⟩
  cases o with
  | lst l => obtain ⟨xs, q, r⟩ := h; exact ⟨xs, k _ _ q, r.mono nx⟩
  | ro l => obtain ⟨xs, q, r⟩ := h; exact ⟨xs, q.keep (same_kp k), r.mono nx⟩
  | dct l => obtain ⟨q, r⟩ := h; exact ⟨q, k _ _ r⟩
  | odc => obtain ⟨ks, q⟩ := h; exact ⟨ks, k _ _ q⟩
  | ins _ _ => exact h.elim
theorem RS.same {s : Store} (r : RS K A H s) (k : Same H H') : RS K A H' s := ⟨r.len, r.inj, fun n a o h1 h2 => (r.at_ n a o h1 h2).mono ⟨[], by simp⟩ k⟩
/-- a new object -/
theorem RS.new {s : Store} {p : Addr} {o : HO} {x : O} (r : RS K A H s) (hp : H p = none) (m : mutO x = true) (new : RO K (A ++ [p]) (upd H p o) p x) : RS K (A ++ [p]) (upd H p o) (s ++ [x]) := by
  have old : ∀ {n : Nat} {a : Addr} {y : O}, (A ++ [p])[n]? = some a → (s ++ [x])[n]? = some y → (n < s.length ∧ A[n]? = some a ∧ s[n]? = some y) ∨ (n = s.length ∧ a = p ∧ y = x) := by
    intro n a y h1 h2
    by_cases hn : n < s.length
    · refine .inl ⟨hn, ?_, ?_⟩
      · rw [List.getElem?_append_left (by rw [r.len]; exact hn)] at h1; exact h1
      · rw [List.getElem?_append_left hn] at h2; exact h2
    · have hl := (List.getElem?_eq_some_iff.mp h2).1
      rw [List.length_append, List.length_singleton] at hl
      have e : n = s.length := by omega
      subst e
      refine .inr ⟨rfl, ?_, ?_⟩
      · rw [List.getElem?_append_right (by rw [r.len]; exact Nat.le_refl _), r.len, Nat.sub_self] at h1
        simpa using h1.symm
      · rw [List.getElem?_append_right (Nat.le_refl _), Nat.sub_self] at h2
        simpa using h2.symm
  refine ⟨by simp [r.len], fun n k a u v h1 h2 h3 h4 m1 m2 => ?_, fun n a y h1 h2 => ?_⟩
  · rcases old h1 h3 with ⟨_, a1, b1⟩ | ⟨e1, a1, b1⟩ <;> rcases old h2 h4 with ⟨_, a2, b2⟩ | ⟨e2, a2, b2⟩
    · exact r.inj n k a u v a1 a2 b1 b2 m1 m2
    · subst a2
      exact absurd hp ((r.at_ n _ u a1 b1).there m1)
    · subst a1
      exact absurd hp ((r.at_ k _ v a2 b2).there m2)
    · rw [e1, e2]
  · rcases old h1 h2 with ⟨_, a1, b1⟩ | ⟨e1, a1, b1⟩
    · exact (r.at_ n a y a1 b1).mono ⟨[p], rfl⟩ (same_new hp)
    · subst a1 b1
      exact new
/-- an object is changed -/
theorem RS.seto {s : Store} {n : Nat} {a : Addr} {x y : O} {u v : HO} (r : RS K A H s) (ha : A[n]? = some a) (hs : s[n]? = some x) (hx : H a = some u) (hm : mutO x = true) (hmy : mutO y = true) (kp : Kp H (upd H a v)) (hy : RO K A (upd H a v) a y) : RS K A (upd H a v) (s.set n y) := by
  have hn : n < s.length := (List.getElem?_eq_some_iff.mp hs).1
  have at' : ∀ {k : Nat} {z : O}, (s.set n y)[k]? = some z → (k = n ∧ z = y) ∨ (k ≠ n ∧ s[k]? = some z) := by
    intro k z h
    by_cases e : k = n
    · subst e
      rw [List.getElem?_set_self hn] at h
      exact .inl ⟨rfl, (Option.some.inj h).symm⟩
    · rw [List.getElem?_set_ne (fun z => e z.symm)] at h
      exact .inr ⟨e, h⟩
  refine ⟨by simp [r.len], fun i j b p q h1 h2 h3 h4 m1 m2 => ?_, fun i b z h1 h2 => ?_⟩
  · rcases at' h3 with ⟨e1, q1⟩ | ⟨e1, q1⟩ <;> rcases at' h4 with ⟨e2, q2⟩ | ⟨e2, q2⟩
    · rw [e1, e2]
    · subst e1
      exact r.inj i j b x q h1 h2 hs q2 hm m2
    · subst e2
      exact r.inj i j b p x h1 h2 q1 hs m1 hm
    · exact r.inj i j b p q h1 h2 q1 q2 m1 m2
  · rcases at' h2 with ⟨e1, q1⟩ | ⟨e1, q1⟩
    · subst e1 q1
      rw [ha] at h1
      cases h1
      exact hy
    · have o := r.at_ i b z h1 q1
      have ne : mutO z = true → b ≠ a := fun m t => e1 (r.inj i n a z x (t ▸ h1) ha q1 hs m hm)
      cases z with
      | lst w =>
        obtain ⟨zs, e, q⟩ := o
        exact ⟨zs, by rw [upd_ne (ne rfl)]; exact e, q.mono (Nx.heap kp)⟩
      | ro w =>
        obtain ⟨zs, e, q⟩ := o
        exact ⟨zs, e.keep kp, q.mono (Nx.heap kp)⟩
      | dct w =>
        obtain ⟨q, e⟩ := o
        exact ⟨q, by rw [upd_ne (ne rfl)]; exact e⟩
      | odc =>
        obtain ⟨ks, e⟩ := o
        exact ⟨ks, by rw [upd_ne (ne rfl)]; exact e⟩
      | ins _ _ => exact o.elim
/-- a list is changed -/
theorem RS.setl {s : Store} {n : Nat} {a : Addr} {xs ys : List V} {l m : List D} (r : RS K A H s) (ha : A[n]? = some a) (hs : s[n]? = some (.lst l)) (hx : H a = some (.lst xs)) (hy : RVs K A H ys m) : RS K A (upd H a (.lst ys)) (s.set n (.lst m)) :=
  r.seto ha hs hx rfl rfl (Kp.lst hx) ⟨ys, upd_same, hy.mono (Nx.heap (Kp.lst hx))⟩
theorem Kp.dk {p : Addr} {ks ls : List (Key × V)} (h : H p = some (.dK ks)) : Kp H (upd H p (.dK ls)) :=
  ⟨fun b xs q => by rw [upd_ne (ne_of q h (by intro z; cases z))]; exact q, fun b o u q => by rw [upd_ne (ne_of q h (by intro z; cases z))]; exact q⟩
theorem Nx.new {p : Addr} {o : HO} (h : H p = none) : Nx A (A ++ [p]) H (upd H p o) := ⟨⟨[p], rfl⟩, Kp.new h⟩
theorem at_last {s : Store} (r : RS K A H s) (p : Addr) : (A ++ [p])[s.length]? = some p := by rw [← r.len]; simp
/-! ### slots -/
structure RSl (K : PySem.W.Frag) (A : List Addr) (H : Hp) (σ : L2.St) (ρ : Env) : Prop where
  len : σ.length = ρ.length
  at_ : ∀ (i : Nat) (d : D), ρ[i]? = some (some d) → ∃ v, σ[i]? = some (some v) ∧ RV K A H v d
theorem RSl.mono {σ : L2.St} {ρ : Env} (r : RSl K A H σ ρ) (x : Nx A A' H H') : RSl K A' H' σ ρ := ⟨r.len, fun i d h => let ⟨v, e, q⟩ := r.at_ i d h; ⟨v, e, q.mono x⟩⟩
theorem RSl.set {σ : L2.St} {ρ : Env} (r : RSl K A H σ ρ) {v : V} {d : D} (i : Nat) (q : RV K A H v d) : RSl K A H (σ.set i (some v)) (ρ.set i (some d)) := by
  refine ⟨by simp [r.len], fun j e h => ?_⟩
  by_cases ij : i = j
  · subst ij
    by_cases hl : i < ρ.length
    · rw [List.getElem?_set_self hl] at h
      cases h
      exact ⟨v, by rw [List.getElem?_set_self (by rw [r.len]; exact hl)], q⟩
    · rw [List.getElem?_eq_none (by simp; omega)] at h
      cases h
  · rw [List.getElem?_set_ne ij] at h ⊢
    exact r.at_ j e h
theorem RSl.unset {σ : L2.St} {ρ : Env} (r : RSl K A H σ ρ) (i : Nat) : RSl K A H (σ.set i none) (ρ.set i none) := by
  refine ⟨by simp [r.len], fun j e h => ?_⟩
  by_cases ij : i = j
  · subst ij
    by_cases hl : i < ρ.length
    · rw [List.getElem?_set_self hl] at h
      cases h
    · rw [List.getElem?_eq_none (by simp; omega)] at h
      cases h
  · rw [List.getElem?_set_ne ij] at h ⊢
    exact r.at_ j e h
/-- a slot that the language does not know of -/
theorem RSl.hide {σ : L2.St} {ρ : Env} (r : RSl K A H σ ρ) (i : Nat) (o : Option V) : RSl K A H (σ.set i o) (ρ.set i none) := by
  refine ⟨by simp [r.len], fun j e h => ?_⟩
  by_cases ij : i = j
  · subst ij
    by_cases hl : i < ρ.length
    · rw [List.getElem?_set_self hl] at h
      cases h
    · rw [List.getElem?_eq_none (by simp; omega)] at h
      cases h
  · rw [List.getElem?_set_ne ij] at h ⊢
    exact r.at_ j e h
theorem RSl.wipe {σ : L2.St} {ρ : Env} (r : RSl K A H σ ρ) : ∀ vs : List Nat, RSl K A H (L2.wipe σ vs) (wipeD ρ vs)
  | [] => r
  | v :: vs => (RSl.wipe r vs).unset v
/-! ### what is wanted behind a computation -/
variable [Xs]
/-- an exception: its class's address, its dict -/
def RX (K : PySem.W.Frag) (A : List Addr) (H : Hp) (x : Exn) (c : Value) (dd : Option Addr) : Prop :=
  c = .ref (He.ga K x.cls) ∧ x.cls ∈ Xs.names ∧ (x.fs = [] → dd = none) ∧ (x.fs ≠ [] → ∃ a fs, dd = some a ∧ H a = some (.xd fs) ∧ ∀ f d, x.fs.lookup f = some d → ∃ v, fs.lookup f = some v ∧ RV K A H v d)
abbrev XW := Value → Option Addr → Hp → Prop
def Post {α β : Type} (K : PySem.W.Frag) (R : List Addr → Hp → β → α → Prop) (A : List Addr) (H : Hp) (X : XW) (Q : β → Hp → Prop) : Res α → Prop
  | .ok d s => ∀ v H' A', Nx A A' H H' → RS K A' H' s → R A' H' v d → Q v H'
  | .ex x s => ∀ H' A' c dd, Nx A A' H H' → RS K A' H' s → RX K A' H' x c dd → X c dd H'
  | .bad => False
theorem Post.re {α β : Type} {R : List Addr → Hp → β → α → Prop} {X : XW} {Q : β → Hp → Prop} {r : Res α} (h : Post K R A H X Q r) (x : Nx A A' H H') : Post K R A' H' X Q r := by
  cases r with
  | ok d s => exact fun v H2 A2 y rs q => h v H2 A2 (x.trans y) rs q
  | ex e s => exact fun H2 A2 c dd y rs q => h H2 A2 c dd (x.trans y) rs q
  | bad => exact h
theorem Post.imp {α β : Type} {R : List Addr → Hp → β → α → Prop} {X : XW} {Q Q' : β → Hp → Prop} {r : Res α} (h : Post K R A H X Q r) (x : ∀ v H', Q v H' → Q' v H') : Post K R A H X Q' r := by
  cases r with
  | ok d s => exact fun v H2 A2 y rs q => x _ _ (h v H2 A2 y rs q)
  | ex e s => exact h
  | bad => exact h
theorem Post.bnd {α β γ δ : Type} {R1 : List Addr → Hp → γ → α → Prop} {R2 : List Addr → Hp → δ → β → Prop} {X : XW} {Q : δ → Hp → Prop} {m : M α} {f : α → M β} {s : Store} (h : Post K R2 A H X Q (bnd m f s)) :
    Post K R1 A H X (fun x H1 => ∃ A1 s1 d, Nx A A1 H H1 ∧ RS K A1 H1 s1 ∧ R1 A1 H1 x d ∧ Post K R2 A1 H1 X Q (f d s1)) (m s) := by
  unfold RI.bnd at h
  cases e : m s with
  | ok d s1 =>
    rw [e] at h
    exact fun v H1 A1 x rs r => ⟨A1, s1, d, x, rs, r, h.re x⟩
  | ex y s1 =>
    rw [e] at h
    exact h
  | bad =>
    rw [e] at h
    exact h
end
end RI
set_option maxRecDepth 100000
set_option maxHeartbeats 4000000
/-! RC: the operations on values keep what the machine does. -/
namespace RI
open PySem L2 PyProof.Rows
variable [Xs]
section
variable {K : PySem.W.Frag} {A : List Addr} {H : Hp} {s : Store}
theorem most_line : most < sizeLine := by rw [sizeLine_eq]; decide
theorem le_line {n : Nat} (h : n ≤ most) : n ≤ sizeLine := Nat.le_trans h (Nat.le_of_lt most_line)
theorem lt_line {n : Nat} (h : n ≤ most) : n < sizeLine := Nat.lt_of_le_of_lt h most_line
theorem fits_log {i : Int} (h : fits i) : i.natAbs.log2 < 8000 := PySem.Flt.log2_lt_of (by decide) h
/-! ### sequences -/
theorem lst_sq {a : Addr} {d : D} {l : List D} (r : RS K A H s) (v : RV K A H (.ref a) d) (h : lstOf s d = some l) : ∃ xs, SqL K H a xs ∧ RVs K A H xs l := by
  cases v with
  | tup _ _ => cases h
  | @ref n a e =>
    unfold lstOf at h
    dsimp only at h
    cases q : s[n]? with
    | none => rw [q] at h; cases h
    | some o =>
      rw [q] at h
      have ro := r.at_ n a o e q
      cases o with
      | lst m =>
        cases h
        obtain ⟨xs, e1, e2⟩ := ro
        exact ⟨xs, SqL.of e1, e2⟩
      | ro m =>
        cases h
        obtain ⟨xs, e1, e2⟩ := ro
        exact ⟨xs, e1.sql, e2⟩
      | _ => cases h
theorem lst_ref {v : V} {d : D} {l : List D} (rv : RV K A H v d) (h : lstOf s d = some l) : ∃ a n, v = .ref a ∧ d = .ref n ∧ A[n]? = some a := by
  cases d with
  | ref n => cases rv with | ref e => exact ⟨_, n, rfl, rfl, e⟩
  | _ => cases h
theorem seq_sq {v : V} {d : D} {l : List D} (r : RS K A H s) (rv : RV K A H v d) (h : seqOf s d = some l) : ∃ a xs, v = .ref a ∧ RVs K A H xs l ∧ (SqL K H a xs ∨ SqT K H a xs) := by
  cases d with
  | tup ds =>
    cases h
    cases rv with
    | tup e q => exact ⟨_, _, rfl, q, .inr e⟩
  | ref n =>
    obtain ⟨a, n, rfl, e, _⟩ := lst_ref rv (show lstOf s (.ref n) = some l from h)
    obtain ⟨xs, e1, e2⟩ := lst_sq r rv (show lstOf s (.ref _) = some l from h)
    exact ⟨a, xs, rfl, e2, .inl e1⟩
  | _ => cases h
/-! ### data as a whole -/
theorem optAll_some {α : Type} : ∀ {l : List (Option α)} {r : List α}, optAll l = some r → l = r.map some
  | [], r, h => by cases h; rfl
  | o :: l, r, h => by
    unfold optAll at h
    cases o with
    | none => cases h
    | some x =>
      cases q : optAll l with
      | none => rw [q] at h; cases h
      | some xs =>
        rw [q] at h
        cases h
        rw [optAll_some q]
        rfl
theorem dps_of {f : D → Option PyData} : ∀ {ds : List D} {vs : List V} {ps : List PyData}, (∀ d ∈ ds, ∀ v p, RV K A H v d → f d = some p → Dp K H v p) → RVs K A H vs ds → optAll (ds.map f) = some ps → DpAll K H vs ps
  | [], _, ps, _, h, e => by cases h; cases e; exact .nil
  | d :: ds, _, ps, g, h, e => by
    cases h with
    | cons r rs =>
      simp only [List.map_cons] at e
      unfold optAll at e
      cases q : f d with
      | none => rw [q] at e; cases e
      | some x =>
        cases q2 : optAll (ds.map f) with
        | none => rw [q, q2] at e; cases e
        | some xs =>
          rw [q, q2] at e
          cases e
          exact .cons (g d (List.mem_cons_self ..) _ _ r q) (dps_of (fun d' hd => g d' (List.mem_cons_of_mem _ hd)) rs q2)
theorem dat_dp (r : RS K A H s) : ∀ (n : Nat) {d : D} {v : V} {p : PyData}, RV K A H v d → dat s n d = some p → Dp K H v p
  | n, .non, v, p, rv, h => by
    cases n <;> (cases h; cases rv; exact .non)
  | n, .bl b, v, p, rv, h => by
    cases n <;> (cases h; cases rv; exact .bl b)
  | n, .int b, v, p, rv, h => by
    cases n <;> (cases h; cases rv; exact .int b)
  | n, .str b, v, p, rv, h => by
    cases n <;> (cases h; cases rv; exact .str b)
  | 0, .tup l, v, p, rv, h => by cases h
  | 0, .ref k, v, p, rv, h => by cases h
  | n + 1, .tup l, v, p, rv, h => by
    unfold dat at h
    cases q : optAll (l.map (dat s n)) with
    | none => rw [q] at h; cases h
    | some ps =>
      rw [q] at h
      cases h
      cases rv with
      | tup e rs => exact .tup e (dps_of (fun d _ v p a b => dat_dp r n a b) rs q)
  | n + 1, .ref k, v, p, rv, h => by
    unfold dat at h
    cases q1 : lstOf s (.ref k) with
    | none => rw [q1] at h; cases h
    | some l =>
      rw [q1] at h
      simp only [Option.bind_some] at h
      cases q : optAll (l.map (dat s n)) with
      | none => rw [q] at h; cases h
      | some ps =>
        rw [q] at h
        cases h
        obtain ⟨a, m, rfl, em, ea⟩ := lst_ref rv q1
        obtain ⟨xs, e, rs⟩ := lst_sq r rv q1
        exact .lst e (dps_of (fun d _ v p a b => dat_dp r n a b) rs q)
/-! ### flat things -/
theorem flat_to {v : V} {d : D} (rv : RV K A H v d) (h : flatD d = true) : v = toV d ∧ flatV v = true := by
  cases rv with
  | non => exact ⟨rfl, rfl⟩
  | bl b => exact ⟨rfl, rfl⟩
  | int b => exact ⟨rfl, rfl⟩
  | str b => exact ⟨rfl, rfl⟩
  | tup _ _ => cases h
  | ref _ => cases h
theorem flat_all : ∀ {ds : List D} {vs : List V}, RVs K A H vs ds → ds.all flatD = true → vs = ds.map toV ∧ vs.all flatV = true
  | [], _, h, _ => by cases h; exact ⟨rfl, rfl⟩
  | d :: ds, _, h, q => by
    cases h with
    | cons r rs =>
      rw [List.all_cons, Bool.and_eq_true] at q
      obtain ⟨e1, f1⟩ := flat_to r q.1
      obtain ⟨e2, f2⟩ := flat_all rs q.2
      exact ⟨by rw [e1, e2]; rfl, by rw [List.all_cons, f1, f2]; rfl⟩
/-! ### operators -/
/-- a two-place operation: what it computes stands behind it -/
def rOp (K : PySem.W.Frag) (f : D → D → M D) : R2 := fun x y H Q => ∃ A s d1 d2, RS K A H s ∧ RV K A H x d1 ∧ RV K A H y d2 ∧ Post K (RV K) A H (fun _ _ _ => False) Q (f d1 d2 s)
variable {X : Cx}
theorem op_fdivX : OpR X (binaryOp .FloorDiv) (rI (fun _ j => j ≠ 0 ∧ j.natAbs.log2 < 9000) fun i j => .int (i.fdiv j)) := opI fun _ _ _ _ _ _ _ hc q => floordiv_int hc.1 q (.inl (PyProof.noPylong_of_log2 hc.2))
theorem post_ok {α β : Type} {R : List Addr → Hp → β → α → Prop} {W : XW} {Q : β → Hp → Prop} {d : α} {v : β} (h : Post K R A H W Q (.ok d s)) (rs : RS K A H s) (r : R A H v d) : Q v H := h v H A (Nx.refl A H) rs r
theorem op_bin {op : Operator} : OpR X (binaryOp op) (rOp X.K (binD op)) := by
  rintro pins st σ H x y v u Q I rx ry ⟨A, s, d1, d2, rs, r1, r2, P⟩
  cases d1 with
  | int i =>
    cases d2 with
    | int j =>
      cases r1
      cases r2
      have P' : Post X.K (RV X.K) A H (fun _ _ _ => False) Q (ofO ((binI op i j).map D.int) s) := P
      cases op <;> first
        | exact op_add pins st σ H _ _ v u Q I rx ry ⟨i, j, rfl, rfl, post_ok P' rs (.int _)⟩
        | exact op_sub pins st σ H _ _ v u Q I rx ry ⟨i, j, rfl, rfl, post_ok P' rs (.int _)⟩
        | (by_cases c : fits i ∧ fits j
           · have P2 : Post X.K (RV X.K) A H (fun _ _ _ => False) Q (.ok (.int (i * j)) s) := by
               have z : binI .Mult i j = some (i * j) := if_pos c
               rw [z] at P'
               exact P'
             refine op_mulW pins st σ H _ _ v u Q I rx ry ⟨i, j, rfl, rfl, ?_, post_ok P2 rs (.int _)⟩
             have a := fits_log c.1
             have b := fits_log c.2
             unfold CMulW
             omega
           · exfalso
             have z : binI .Mult i j = none := if_neg c
             rw [z] at P'
             exact P')
        | (by_cases c : j ≠ 0 ∧ fits j
           · have P2 : Post X.K (RV X.K) A H (fun _ _ _ => False) Q (.ok (.int (i.fdiv j)) s) := by
               have z : binI .FloorDiv i j = some (i.fdiv j) := if_pos c
               rw [z] at P'
               exact P'
             exact op_fdivX pins st σ H _ _ v u Q I rx ry ⟨i, j, rfl, rfl, ⟨c.1, Nat.lt_trans (fits_log c.2) (by decide)⟩, post_ok P2 rs (.int _)⟩
           · exfalso
             have z : binI .FloorDiv i j = none := if_neg c
             rw [z] at P'
             exact P')
        | (by_cases c : j ≠ 0
           · have P2 : Post X.K (RV X.K) A H (fun _ _ _ => False) Q (.ok (.int (i.fmod j)) s) := by
               have z : binI .Mod i j = some (i.fmod j) := if_pos c
               rw [z] at P'
               exact P'
             exact op_modN pins st σ H _ _ v u Q I rx ry ⟨i, j, rfl, rfl, c, post_ok P2 rs (.int _)⟩
           · exfalso
             have z : binI .Mod i j = none := if_neg c
             rw [z] at P'
             exact P')
        | (by_cases c : 0 ≤ j ∧ j ≤ 4000 ∧ i.natAbs < 2 ^ 64
           · have P2 : Post X.K (RV X.K) A H (fun _ _ _ => False) Q (.ok (.int (i ^ j.toNat)) s) := by
               have z : binI .Pow i j = some (i ^ j.toNat) := if_pos c
               rw [z] at P'
               exact P'
             exact op_pow pins st σ H _ _ v u Q I rx ry ⟨i, j, rfl, rfl, ⟨c.1, by omega, c.2.2⟩, post_ok P2 rs (.int _)⟩
           · exfalso
             have z : binI .Pow i j = none := if_neg c
             rw [z] at P'
             exact P')
        | exact absurd P' (fun z => z)
    | _ => exact absurd P (fun z => z)
  | str i =>
    cases d2 with
    | str j =>
      cases r1
      cases r2
      cases op <;> first
        | (by_cases c : i.length + j.length ≤ most
           · have P2 : Post X.K (RV X.K) A H (fun _ _ _ => False) Q (.ok (.str (i ++ j)) s) := by
               have z : binD .Add (.str i) (.str j) = ret (.str (i ++ j)) := if_pos c
               rw [z] at P
               exact P
             exact op_add_str pins st σ H _ _ v u Q I rx ry ⟨i, j, rfl, rfl, le_line c, post_ok P2 rs (.str _)⟩
           · exfalso
             have z : binD .Add (.str i) (.str j) = badM := if_neg c
             rw [z] at P
             exact P)
        | exact absurd P (fun z => z)
    | _ => exact absurd P (fun z => z)
  | ref i =>
    cases d2 with
    | ref j =>
      cases r1 with
      | @ref _ a e1 =>
        cases r2 with
        | @ref _ b e2 =>
          cases op <;> first
            | (cases q1 : s[i]? with
               | none =>
                 exfalso
                 simp only [binD, q1] at P
                 exact P
               | some o1 =>
                 cases q2 : s[j]? with
                 | none =>
                   exfalso
                   simp only [binD, q1, q2] at P
                   cases o1 <;> exact P
                 | some o2 =>
                   cases o1 with
                   | lst l =>
                     cases o2 with
                     | lst m =>
                       by_cases c : l.length + m.length ≤ most
                       · simp only [binD, q1, q2, if_pos c] at P
                         obtain ⟨xs, h1, rx1⟩ := rs.at_ i a _ e1 q1
                         obtain ⟨ys, h2, ry1⟩ := rs.at_ j b _ e2 q2
                         refine op_cat pins st σ H _ _ v u Q I rx ry ⟨a, b, xs, ys, rfl, rfl, h1, h2, ?_, fun p hp => ?_⟩
                         · rw [rx1.length, ry1.length]
                           exact le_line c
                         · have nx : Nx A (A ++ [p]) H (upd H p (.lst (xs ++ ys))) := Nx.new hp
                           exact P (.ref p) _ (A ++ [p]) nx (rs.new hp rfl ⟨_, upd_same, (rx1.append ry1).mono nx⟩) (.ref (at_last rs p))
                       · exfalso
                         simp only [binD, q1, q2, if_neg c] at P
                         exact P
                     | _ => exfalso; simp only [binD, q1, q2] at P; exact P
                   | _ => exfalso; simp only [binD, q1, q2] at P; exact P)
            | (exfalso; exact P)
            | (exfalso; simp only [binD] at P; exact P)
    | _ => exact absurd P (fun z => z)
  | _ => cases d2 <;> exact absurd P (fun z => z)
end
end RI
set_option maxRecDepth 100000
set_option maxHeartbeats 4000000
/-! RD: comparisons, subscripts, slices, built-in functions, methods. -/
namespace RI
open PySem L2 PyProof.Rows
variable [Xs]
section
variable {K : PySem.W.Frag} {A : List Addr} {H : Hp} {s : Store} {X : Cx}
/-- .. where the operation gives a truth, or nothing -/
def rCmp (K : PySem.W.Frag) (op : CmpOp) : R2 := fun x y H Q => ∃ A s d1 d2 b, RS K A H s ∧ RV K A H x d1 ∧ RV K A H y d2 ∧ cmpD op d1 d2 s = some b ∧ Q (.bl b) H
theorem eqD_dp {d1 d2 : D} {x y : V} {b : Bool} (rs : RS K A H s) (r1 : RV K A H x d1) (r2 : RV K A H y d2) (h : eqD s d1 d2 = some b) :
    ∃ p q, Dp K H x p ∧ Dp K H y q ∧ SeqAt.shaped p = true ∧ SeqAt.shaped q = true ∧ PyData.eqv p q = b := by
  unfold eqD at h
  cases e1 : dat s 64 d1 with
  | none => rw [e1] at h; cases h
  | some p =>
    cases e2 : dat s 64 d2 with
    | none => rw [e1, e2] at h; cases h
    | some q =>
      rw [e1, e2] at h
      dsimp only at h
      by_cases c : SeqAt.shaped p = true ∧ SeqAt.shaped q = true
      · rw [if_pos c] at h
        exact ⟨p, q, dat_dp rs 64 r1 e1, dat_dp rs 64 r2 e2, c.1, c.2, Option.some.inj h⟩
      · rw [if_neg c] at h
        cases h
theorem isNon_of {d : D} {x : V} (r : RV K A H x d) : decide (x = .non) = isNon d := by
  cases r <;> simp [isNon]
theorem in_case {neg : Bool} {d1 d2 : D} {x y : V} {b : Bool} {Q : VK} (rs : RS K A H s) (r1 : RV K A H x d1) (r2 : RV K A H y d2)
    (h : ((seqOf s d2).bind fun l => if flatD d1 = true ∧ l.all flatD = true then some (if neg then !inD d1 l else inD d1 l) else none) = some b) (q : Q (.bl b) H) : rIn K neg x y H Q := by
  cases e : seqOf s d2 with
  | none => rw [e] at h; cases h
  | some l =>
    rw [e, Option.bind_some] at h
    by_cases c : flatD d1 = true ∧ l.all flatD = true
    · rw [if_pos c] at h
      obtain ⟨a, xs, rfl, rxs, sq⟩ := seq_sq rs r2 e
      obtain ⟨e1, f1⟩ := flat_to r1 c.1
      obtain ⟨e2, f2⟩ := flat_all rxs c.2
      refine ⟨a, xs, rfl, sq, f1, f2, ?_⟩
      have eb : (if neg then !inV x xs else inV x xs) = b := by
        rw [e1, e2]
        exact Option.some.inj h
      rw [eb]
      exact q
    · rw [if_neg c] at h
      cases h
theorem op_cmp (hu : X.A.units + 64 < cLine) {op : CmpOp} : OpR X (compareOp op) (rCmp X.K op) := by
  rintro pins st σ H x y v u Q I rx ry ⟨A, s, d1, d2, b, rs, r1, r2, e, q⟩
  cases op with
  | Eq =>
    obtain ⟨p1, p2, a1, a2, s1, s2, eb⟩ := eqD_dp rs r1 r2 e
    exact op_eqD hu pins st σ H x y v u Q I rx ry ⟨p1, p2, a1, a2, s1, s2, by rw [eb]; exact q⟩
  | NotEq =>
    have e' : (eqD s d1 d2).map not = some b := e
    cases e2 : eqD s d1 d2 with
    | none => rw [e2] at e'; cases e'
    | some c =>
      rw [e2] at e'
      obtain ⟨p1, p2, a1, a2, s1, s2, eb⟩ := eqD_dp rs r1 r2 e2
      exact op_neD hu pins st σ H x y v u Q I rx ry ⟨p1, p2, a1, a2, s1, s2, by rw [eb, show (!c) = b from Option.some.inj e']; exact q⟩
  | Lt =>
    cases d1 with
    | int i =>
      cases d2 with
      | int j =>
        cases r1
        cases r2
        exact op_lt pins st σ H _ _ v u Q I rx ry ⟨i, j, rfl, rfl, (show Q (.bl (decide (i < j))) H by rw [show decide (i < j) = b from Option.some.inj e]; exact q)⟩
      | _ => cases e
    | _ => cases e
  | LtE =>
    cases d1 with
    | int i =>
      cases d2 with
      | int j =>
        cases r1
        cases r2
        exact op_le pins st σ H _ _ v u Q I rx ry ⟨i, j, rfl, rfl, (show Q (.bl (decide (i ≤ j))) H by rw [show decide (i ≤ j) = b from Option.some.inj e]; exact q)⟩
      | _ => cases e
    | _ => cases e
  | Gt =>
    cases d1 with
    | int i =>
      cases d2 with
      | int j =>
        cases r1
        cases r2
        exact op_gt pins st σ H _ _ v u Q I rx ry ⟨i, j, rfl, rfl, (show Q (.bl (decide (j < i))) H by rw [show decide (j < i) = b from Option.some.inj e]; exact q)⟩
      | _ => cases e
    | _ => cases e
  | GtE =>
    cases d1 with
    | int i =>
      cases d2 with
      | int j =>
        cases r1
        cases r2
        exact op_ge pins st σ H _ _ v u Q I rx ry ⟨i, j, rfl, rfl, (show Q (.bl (decide (j ≤ i))) H by rw [show decide (j ≤ i) = b from Option.some.inj e]; exact q)⟩
      | _ => cases e
    | _ => cases e
  | Is =>
    have e' : (if isNon d2 = true then some (isNon d1) else none) = some b := e
    cases n2 : isNon d2 with
    | false => rw [n2] at e'; cases e'
    | true =>
      rw [n2, if_pos rfl] at e'
      have y0 : y = .non := of_decide_eq_true ((isNon_of r2).trans n2)
      exact op_isN pins st σ H x y v u Q I rx ry ⟨y0, by rw [isNon_of r1, Option.some.inj e']; exact q⟩
  | IsNot =>
    have e' : (if isNon d2 = true then some (!isNon d1) else none) = some b := e
    cases n2 : isNon d2 with
    | false => rw [n2] at e'; cases e'
    | true =>
      rw [n2, if_pos rfl] at e'
      have y0 : y = .non := of_decide_eq_true ((isNon_of r2).trans n2)
      exact op_notN pins st σ H x y v u Q I rx ry ⟨y0, by rw [isNon_of r1, Option.some.inj e']; exact q⟩
  | In =>
    have gen : ((seqOf s d2).bind fun l => if flatD d1 = true ∧ l.all flatD = true then some (if false then !inD d1 l else inD d1 l) else none) = some b → wpAny (model X.prog X.w) X.A (compareOp .In v u) (EP X pins σ Q) X.xe st := fun h =>
      op_in_seq pins st σ H x y v u Q I rx ry (in_case rs r1 r2 h q)
    cases d1 with
    | str i =>
      cases d2 with
      | str j =>
        cases r1
        cases r2
        exact op_in_str pins st σ H _ _ v u Q I rx ry ⟨i, j, rfl, rfl, by rw [show (!(Builtin.Str.occurrences j i 0 j.length 1).isEmpty) = b from Option.some.inj e]; exact q⟩
      | _ => exact gen e
    | _ => cases d2 <;> exact gen e
  | NotIn =>
    have gen : ((seqOf s d2).bind fun l => if flatD d1 = true ∧ l.all flatD = true then some (if true then !inD d1 l else inD d1 l) else none) = some b → wpAny (model X.prog X.w) X.A (compareOp .NotIn v u) (EP X pins σ Q) X.xe st := fun h =>
      op_notIn_seq pins st σ H x y v u Q I rx ry (in_case rs r1 r2 h q)
    cases d1 with
    | str i =>
      cases d2 with
      | str j =>
        cases r1
        cases r2
        exact op_notin_str pins st σ H _ _ v u Q I rx ry ⟨i, j, rfl, rfl, by rw [show (!(!(Builtin.Str.occurrences j i 0 j.length 1).isEmpty)) = b from Option.some.inj e]; exact q⟩
      | _ => exact gen e
    | _ => cases d2 <;> exact gen e
/-! ### a[b] -/
theorem atI_rv : ∀ {xs : List V} {l : List D} {i : Int} {d : D}, RVs K A H xs l → atI l i = some d → ∃ v, atI xs i = some v ∧ RV K A H v d := by
  intro xs l i d r h
  unfold atI at h ⊢
  rw [r.length]
  cases e : ixN l.length i with
  | none => rw [e] at h; cases h
  | some j =>
    rw [e] at h
    exact r.get h
def rIxD (K : PySem.W.Frag) : R2 := fun x y H Q => ∃ A s d1 d2 d, RS K A H s ∧ RV K A H x d1 ∧ RV K A H y d2 ∧ ixD d1 d2 s = some d ∧ ∀ v, RV K A H v d → Q v H
theorem ix_D : IxR X (rIxD X.K) := by
  rintro value slice pins st σ H x y v u Q I rx ry ⟨A, s, d1, d2, d, rs, r1, r2, e, q⟩ hs
  refine ix_seq value slice pins st σ H x y v u Q I rx ry ?_ hs
  cases d2 with
  | int i =>
    cases r2
    have gen : ((seqOf s d1).bind fun l => atI l i) = some d → rIx X.K x (.int i) H Q := fun h => by
      cases e : seqOf s d1 with
      | none => rw [e] at h; cases h
      | some l =>
        rw [e, Option.bind_some] at h
        obtain ⟨a, xs, rfl, rxs, sq⟩ := seq_sq rs r1 e
        obtain ⟨v, e1, rv⟩ := atI_rv rxs h
        rcases sq with sq | sq
        · exact .inl ⟨a, xs, i, v, rfl, rfl, sq, e1, q v rv⟩
        · exact .inr (.inl ⟨a, xs, i, v, rfl, rfl, sq, e1, q v rv⟩)
    cases d1 with
    | str z =>
      cases r1
      have e' : (if z.length ≤ most then (atI z.cps.toList i).map fun c => D.str ⟨#[c]⟩ else none) = some d := e
      by_cases c : z.length ≤ most
      · rw [if_pos c] at e'
        cases e2 : atI z.cps.toList i with
        | none => rw [e2] at e'; cases e'
        | some k =>
          rw [e2] at e'
          cases e'
          exact .inr (.inr ⟨z, i, k, rfl, rfl, le_line c, e2, q _ (.str _)⟩)
      · rw [if_neg c] at e'
        cases e'
    | _ => exact gen e
  | _ => cases e
/-! ### slices -/
theorem cut_rv {xs : List V} {l : List D} (lo hi : Option Int) (r : RVs K A H xs l) : RVs K A H (cutV xs lo hi) (cutD l lo hi) := by
  unfold cutV cutD
  rw [r.length]
  exact (r.drop _).take _
/-! ### built-in functions -/
def rBi (K : PySem.W.Frag) (f : Bi) : List V → Hp → VK → Prop := fun vs H Q => ∃ A s ds, RS K A H s ∧ RVs K A H vs ds ∧ Post K (RV K) A H (fun _ _ _ => False) Q (biD f ds s)
theorem rvs1 {vs : List V} {d : D} (h : RVs K A H vs [d]) : ∃ v, vs = [v] ∧ RV K A H v d := by
  cases h with
  | cons r rs => cases rs; exact ⟨_, rfl, r⟩
theorem rvs2 {vs : List V} {d e : D} (h : RVs K A H vs [d, e]) : ∃ v w, vs = [v, w] ∧ RV K A H v d ∧ RV K A H w e := by
  cases h with
  | cons r rs => obtain ⟨w, rfl, q⟩ := rvs1 rs; exact ⟨_, w, rfl, r, q⟩
theorem bi_len : CallR X (.builtin "len") (rBi X.K .len) := by
  rintro pins st σ H vs us Q I r ⟨A, s, ds, rs, rds, P⟩
  cases ds with
  | nil => exact P.elim
  | cons d t =>
    cases t with
    | cons _ _ => cases d <;> exact P.elim
    | nil =>
      obtain ⟨v, rfl, rv⟩ := rvs1 rds
      have gen : ∀ d', RV X.K A H v d' → Post X.K (RV X.K) A H (fun _ _ _ => False) Q (match seqOf s d' with
          | some l => .ok (.int l.length) s
          | none => .bad) → wpAny (model X.prog X.w) X.A (call (.builtin "len") us) (EP X pins σ Q) X.xe st := fun d' rv' P' => by
        cases e : seqOf s d' with
        | none => rw [e] at P'; exact P'.elim
        | some l =>
          rw [e] at P'
          obtain ⟨a, xs, rfl, rxs, sq⟩ := seq_sq rs rv' e
          exact call_len_seq pins st σ H _ us Q I r ⟨a, xs, rfl, sq, by rw [rxs.length]; exact post_ok P' rs (.int _)⟩
      cases d with
      | str z =>
        cases rv
        have P' : Post X.K (RV X.K) A H (fun _ _ _ => False) Q (if z.length ≤ most then .ok (.int z.length) s else .bad) := P
        by_cases c : z.length ≤ most
        · rw [if_pos c] at P'
          exact call_len_str pins st σ H _ us Q I r ⟨z, rfl, le_line c, post_ok P' rs (.int _)⟩
        · rw [if_neg c] at P'
          exact P'.elim
      | _ => exact gen _ rv P
theorem bi_abs : CallR X (.builtin "abs") (rBi X.K .abs) := by
  rintro pins st σ H vs us Q I r ⟨A, s, ds, rs, rds, P⟩
  cases ds with
  | nil => exact P.elim
  | cons d t =>
    cases t with
    | cons _ _ => cases d <;> exact P.elim
    | nil =>
      cases d with
      | int i =>
        obtain ⟨v, rfl, rv⟩ := rvs1 rds
        cases rv
        exact call_abs pins st σ H _ us Q I r ⟨i, rfl, post_ok P rs (.int _)⟩
      | _ => exact P.elim
theorem bi_gcd : CallR X (.builtin "math.gcd") (rBi X.K .gcd) := by
  rintro pins st σ H vs us Q I r ⟨A, s, ds, rs, rds, P⟩
  cases ds with
  | nil => exact P.elim
  | cons d t =>
    cases t with
    | nil => cases d <;> exact P.elim
    | cons e t =>
      cases t with
      | cons _ _ => cases d <;> first | exact P.elim | (cases e <;> exact P.elim)
      | nil =>
        cases d with
        | int i =>
          cases e with
          | int j =>
            obtain ⟨v, w, rfl, rv, rw⟩ := rvs2 rds
            cases rv
            cases rw
            exact cr_gcd pins st σ H _ us Q I r ⟨i, j, rfl, post_ok P rs (.int _)⟩
          | _ => exact P.elim
        | _ => exact P.elim
theorem bi_int : CallR X (.type "int") (rBi X.K .int) := by
  rintro pins st σ H vs us Q I r ⟨A, s, ds, rs, rds, P⟩
  cases ds with
  | nil => exact P.elim
  | cons d t =>
    cases t with
    | cons _ _ => cases d <;> exact P.elim
    | nil =>
      obtain ⟨v, rfl, rv⟩ := rvs1 rds
      cases d with
      | int i =>
        cases rv
        exact call_int1 pins st σ H _ us Q I r (.inl ⟨i, rfl, post_ok P rs (.int _)⟩)
      | bl i =>
        cases rv
        exact call_int1 pins st σ H _ us Q I r (.inr ⟨i, rfl, post_ok P rs (.int _)⟩)
      | _ => exact P.elim
theorem bi_list : CallR X (.type "list") (rBi X.K .list) := by
  rintro pins st σ H vs us Q I r ⟨A, s, ds, rs, rds, P⟩
  cases ds with
  | nil => exact P.elim
  | cons d t =>
    cases t with
    | cons _ _ => cases d <;> exact P.elim
    | nil =>
      obtain ⟨v, rfl, rv⟩ := rvs1 rds
      have P' : Post X.K (RV X.K) A H (fun _ _ _ => False) Q (match seqOf s d with
        | some l => .ok (.ref s.length) (s ++ [.lst l])
        | none => .bad) := P
      cases e : seqOf s d with
      | none => rw [e] at P'; exact P'.elim
      | some l =>
        rw [e] at P'
        obtain ⟨a, xs, rfl, rxs, sq⟩ := seq_sq rs rv e
        refine call_list_of pins st σ H _ us Q I r ⟨a, xs, rfl, sq, fun p hp => ?_⟩
        have nx : Nx A (A ++ [p]) H (upd H p (.lst xs)) := Nx.new hp
        exact P' (.ref p) _ (A ++ [p]) nx (rs.new hp rfl ⟨_, upd_same, rxs.mono nx⟩) (.ref (at_last rs p))
theorem bi_tuple : CallR X (.type "tuple") (rBi X.K .tuple) := by
  rintro pins st σ H vs us Q I r ⟨A, s, ds, rs, rds, P⟩
  cases ds with
  | nil => exact P.elim
  | cons d t =>
    cases t with
    | cons _ _ => cases d <;> exact P.elim
    | nil =>
      obtain ⟨v, rfl, rv⟩ := rvs1 rds
      have gen : ∀ d', RV X.K A H v d' → Post X.K (RV X.K) A H (fun _ _ _ => False) Q (match lstOf s d' with
          | some l => .ok (.tup l) s
          | none => .bad) → wpAny (model X.prog X.w) X.A (call (.type "tuple") us) (EP X pins σ Q) X.xe st := fun d' rv' P' => by
        cases e : lstOf s d' with
        | none => rw [e] at P'; exact P'.elim
        | some l =>
          rw [e] at P'
          obtain ⟨a, n, rfl, rfl, _⟩ := lst_ref rv' e
          obtain ⟨xs, sq, rxs⟩ := lst_sq rs rv' e
          refine call_tuple_of pins st σ H _ us Q I r ⟨a, xs, rfl, .inl ⟨sq, fun p hp => ?_⟩⟩
          have nx : Nx A A H (upd H p (.tup xs)) := Nx.heap (Kp.new hp)
          exact P' (.ref p) _ A nx (rs.same (same_new hp)) (.tup (SqT.of upd_same) (rxs.mono nx))
      cases d with
      | tup l =>
        cases rv with
        | tup e q => exact call_tuple_of pins st σ H _ us Q I r ⟨_, _, rfl, .inr ⟨e, post_ok P rs (.tup e q)⟩⟩
      | _ => exact gen _ rv P
/-! ### isinstance -/
def Ty.nm : Ty → String
  | .int => "int" | .bool => "bool" | .str => "str" | .tuple => "tuple" | .list => "list" | .dict => "dict"
def rIsD (K : PySem.W.Frag) (t : Ty) : List V → Hp → VK → Prop := fun vs H Q => ∃ A s d x b, vs = [x, .ty t.nm] ∧ RS K A H s ∧ RV K A H x d ∧ tyD s t d = some b ∧ Q (.bl b) H
theorem kit_non (t : Ty) : kitB "NoneType" t.nm = some false := by cases t <;> decide +kernel
theorem kit_bool (t : Ty) : kitB "bool" t.nm = some (decide (t = .bool) || decide (t = .int)) := by cases t <;> decide +kernel
theorem kit_int (t : Ty) : kitB "int" t.nm = some (decide (t = .int)) := by cases t <;> decide +kernel
theorem kit_str (t : Ty) : kitB "str" t.nm = some (decide (t = .str)) := by cases t <;> decide +kernel
theorem kit_tuple (t : Ty) : kitB "tuple" t.nm = some (decide (t = .tuple)) := by cases t <;> decide +kernel
theorem kit_list (t : Ty) : kitB "list" t.nm = some (decide (t = .list)) := by cases t <;> decide +kernel
theorem kit_dict (t : Ty) : kitB "dict" t.nm = some (decide (t = .dict)) := by cases t <;> decide +kernel
theorem is_D {t : Ty} : CallR X (.builtin "isinstance") (rIsD X.K t) := by
  rintro pins st σ H vs us Q I r ⟨A, s, d, x, b, rfl, rs, rv, e, q⟩
  have go : ∀ {w : Value}, TyX X.K H x w → PySem.W.kitOne X.K w (.type t.nm) = some b → wpAny (model X.prog X.w) X.A (call (.builtin "isinstance") us) (EP X pins σ Q) X.xe st := fun {w} ty k =>
    call_isi pins st σ H _ us Q I r ⟨x, .ty t.nm, w, .type t.nm, b, rfl, .ty _, ty, k, q⟩
  cases rv with
  | non => exact go (.base .non) (kit_ty ((kit_non t).trans e))
  | bl k => exact go (.base (.bl k)) (kit_ty ((kit_bool t).trans e))
  | int k => exact go (.base (.int k)) (kit_ty ((kit_int t).trans e))
  | str k => exact go (.base (.str k)) (kit_ty ((kit_str t).trans e))
  | tup sq _ =>
    rcases sq with (h | ⟨o, h⟩) | ⟨o, its, n, h, c, _⟩
    · exact go (.base (.tup h)) (kit_ty ((kit_tuple t).trans e))
    · exact go (.fTuple h) (kit_ty ((kit_tuple t).trans e))
    · exact go (.kTuple h c) (kit_ty ((kit_tuple t).trans e))
  | @ref n a ha =>
    have e : (match s[n]? with
      | some (.lst _) => some (decide (t = Ty.list))
      | some (.dct _) => some (decide (t = Ty.dict))
      | some .odc => some (decide (t = Ty.dict))
      | _ => none) = some b := e
    cases q1 : s[n]? with
    | none => rw [q1] at e; cases e
    | some o =>
      rw [q1] at e
      have ro := rs.at_ n a o ha q1
      cases o with
      | lst l =>
        obtain ⟨xs, h, _⟩ := ro
        exact go (.base (.lst h)) (kit_ty ((kit_list t).trans e))
      | dct l => exact go (.base (.dK ro.2)) (kit_ty ((kit_dict t).trans e))
      | odc =>
        obtain ⟨ks, h⟩ := ro
        exact go (.base (.dK h)) (kit_ty ((kit_dict t).trans e))
      | _ => cases e
/-! ### methods of lists -/
def rMt (K : PySem.W.Frag) (m : Mt) : V → List V → Hp → VK → Prop := fun x vs H Q => ∃ A s d ds, RS K A H s ∧ RV K A H x d ∧ RVs K A H vs ds ∧ Post K (RV K) A H (fun _ _ _ => False) Q (mtD m d ds s)
theorem mt_app : MtR X "list.append" (rMt X.K .append) := by
  rintro pins st σ H x vs v us Q I rx r ⟨A, s, d, ds, rs, rv, rds, P⟩
  cases ds with
  | nil => cases d <;> exact P.elim
  | cons e t =>
    cases t with
    | cons _ _ => cases d <;> exact P.elim
    | nil =>
      obtain ⟨y, rfl, ry⟩ := rvs1 rds
      cases d with
      | ref n =>
        cases rv with
        | @ref _ a ha =>
          have P' : Post X.K (RV X.K) A H (fun _ _ _ => False) Q (match s[n]? with
            | some (.lst l) => if l.length ≤ most then .ok .non (s.set n (.lst (l ++ [e]))) else .bad
            | _ => .bad) := P
          cases q1 : s[n]? with
          | none => rw [q1] at P'; exact P'.elim
          | some o =>
            rw [q1] at P'
            cases o with
            | lst l =>
              dsimp only at P'
              by_cases c : l.length ≤ most
              · rw [if_pos c] at P'
                obtain ⟨xs, h1, rxs⟩ := rs.at_ n a _ ha q1
                refine mt_append pins st σ H _ _ v us Q I rx r ⟨a, xs, y, rfl, rfl, h1, by rw [rxs.length]; exact lt_line c, ?_⟩
                exact P' .non _ A (Nx.heap (Kp.lst h1)) (rs.setl ha q1 h1 (rxs.append (.cons ry .nil))) .non
              · rw [if_neg c] at P'
                exact P'.elim
            | _ => exact P'.elim
      | _ => exact P.elim
end
end RI
set_option maxRecDepth 100000
set_option maxHeartbeats 4000000
/-! RE: expressions keep what the machine does: one lemma a construct. -/
namespace L2
open PySem PyProof.Rows
theorem PE.weak {X : Cx} {e : Expr} {t t' : TE} (h : PE X e t) (w : ∀ σ H Q, t' σ H Q → t σ H Q) : PE X e t' := ⟨fun pins s σ H Q I q => h.run pins s σ H Q I (w σ H Q q)⟩
theorem PT.weak {X : Cx} {e : Expr} {t t' : TT} (h : PT X e t) (w : ∀ σ H Q, t' σ H Q → t σ H Q) : PT X e t' := ⟨fun pins s σ H Q I q => h.run pins s σ H Q I (w σ H Q q)⟩
theorem PA.weak {X : Cx} {e : List Expr} {t t' : TA} (h : PA X e t) (w : ∀ σ H Q, t' σ H Q → t σ H Q) : PA X e t' := ⟨fun pos pins s σ H Q I q => h.run pos pins s σ H Q I (w σ H Q q)⟩
theorem PO.weak {X : Cx} {e : Option Expr} {t t' : TO} (h : PO X e t) (w : ∀ σ H Q, t' σ H Q → t σ H Q) : PO X e t' := ⟨fun pins s σ H Q I q => h.run pins s σ H Q I (w σ H Q q)⟩
end L2
namespace RI
open PySem L2 PyProof.Rows
variable [Xs]
/-- the readings: what the language computes stands behind it -/
def tR {α β : Type} (K : PySem.W.Frag) (sd : L2.St → Prop) (W : WX) (R : List Addr → Hp → β → α → Prop) (m : Env → M α) : L2.St → Hp → (β → Hp → Prop) → Prop := fun σ H Q =>
  ∃ A st ρ, sd σ ∧ RS K A H st ∧ RSl K A H σ ρ ∧ Post K R A H (fun c d H' => W c d σ H') Q (m ρ st)
abbrev tE (K : PySem.W.Frag) (sd : L2.St → Prop) (W : WX) (m : Env → M D) : TE := tR K sd W (RV K) m
abbrev tEs (K : PySem.W.Frag) (sd : L2.St → Prop) (W : WX) (m : Env → M (List D)) : TA := tR K sd W (RVs K) m
abbrev tT (K : PySem.W.Frag) (sd : L2.St → Prop) (W : WX) (m : Env → M Bool) : TT := tR K sd W (fun _ _ b c => b = c) m
abbrev tO (K : PySem.W.Frag) (sd : L2.St → Prop) (W : WX) (m : Env → M (Option Int)) : TO := tR K sd W (fun _ _ b c => b = c) m
section
variable {K : PySem.W.Frag} {sd : L2.St → Prop} {W : WX}
/-- one computation, then another -/
theorem tR.bnd {α β γ δ : Type} {R1 : List Addr → Hp → γ → α → Prop} {R2 : List Addr → Hp → δ → β → Prop} {m : Env → M α} {f : α → Env → M β} {σ : L2.St} {H : Hp} {Q : δ → Hp → Prop}
    (h : tR K sd W R2 (fun ρ => bnd (m ρ) fun a => f a ρ) σ H Q) :
    tR K sd W R1 m σ H fun x H1 => ∃ A1 s1 d ρ, sd σ ∧ RS K A1 H1 s1 ∧ RSl K A1 H1 σ ρ ∧ R1 A1 H1 x d ∧ Post K R2 A1 H1 (fun c d H' => W c d σ H') Q (f d ρ s1) := by
  obtain ⟨A, st, ρ, hs, rs, rl, P⟩ := h
  refine ⟨A, st, ρ, hs, rs, rl, (Post.bnd (R1 := R1) P).imp fun v H1 ⟨A1, s1, d, nx, rs1, r, P1⟩ => ?_⟩
  exact ⟨A1, s1, d, ρ, hs, rs1, rl.mono nx, r, P1⟩
theorem post_nox {α β : Type} {R : List Addr → Hp → β → α → Prop} {A : List Addr} {H : Hp} {X X' : XW} {Q : β → Hp → Prop} {r : Res α} (h : Post K R A H X Q r) (n : ∀ x s, r ≠ .ex x s) : Post K R A H X' Q r := by
  cases r with
  | ok d s => exact h
  | ex x s => exact absurd rfl (n x s)
  | bad => exact h
theorem ofO_nox {α : Type} {o : Option α} {s : Store} (x : Exn) (t : Store) : ofO o s ≠ .ex x t := by
  intro h
  cases o <;> cases h
theorem binD_nox {op : Operator} {a b : D} {s : Store} (x : Exn) (t : Store) : binD op a b s ≠ .ex x t := by
  intro h
  unfold binD at h
  cases a <;> cases b <;> dsimp only at h <;> first
    | exact ofO_nox _ _ h
    | (cases op <;> first | (split at h <;> cases h) | cases h)
    | (split at h <;> first | (split at h <;> cases h) | cases h)
    | cases h
theorem biD_nox {f : Bi} {as : List D} {s : Store} (x : Exn) (t : Store) : biD f as s ≠ .ex x t := by
  intro h
  unfold biD at h
  split at h <;> first
    | (split at h <;> cases h)
    | cases h
theorem mtD_nox {m : Mt} {a : D} {as : List D} {s : Store} (x : Exn) (t : Store) : mtD m a as s ≠ .ex x t := by
  intro h
  unfold mtD at h
  split at h <;> first
    | (split at h <;> first | (split at h <;> cases h) | cases h)
    | cases h
end
section
variable {X : Cx} {sd : L2.St → Prop} {W : WX} {B : Tb} {pos : Pos}
/-- the same computation, said otherwise -/
theorem tR.to {α β : Type} {R : List Addr → Hp → β → α → Prop} {m m' : Env → M α} {σ : L2.St} {H : Hp} {Q : β → Hp → Prop} (h : tR X.K sd W R m σ H Q) (e : ∀ ρ, m ρ = m' ρ) : tR X.K sd W R m' σ H Q := by
  obtain ⟨A, st, ρ, hs, rs, rl, P⟩ := h
  exact ⟨A, st, ρ, hs, rs, rl, by rw [← e]; exact P⟩
theorem se_c {e : Expr} {v : V} {d : D} (h : PE X e (tC v)) (r : ∀ A H, RV X.K A H v d) : PE X e (tE X.K sd W (ev B (.c d))) :=
  h.weak fun σ H Q ⟨A, st, ρ, hs, rs, rl, P⟩ => by
    rw [ev] at P
    exact post_ok P rs (r A H)
theorem se_var {i : Nat} {e : Expr} (h : PE X e (tVar i)) : PE X e (tE X.K sd W (ev B (.var i))) :=
  h.weak fun σ H Q ⟨A, st, ρ, hs, rs, rl, P⟩ => by
    rw [ev] at P
    cases q : ρ[i]? with
    | none => rw [q] at P; exact P.elim
    | some o =>
      cases o with
      | none => rw [q] at P; exact P.elim
      | some d =>
        rw [q] at P
        obtain ⟨v, e1, r⟩ := rl.at_ i d q
        exact ⟨v, e1, post_ok P rs r⟩
theorem se_glob {x : Str} {e : Expr} {v : V} {d : D} (h : PE X e (tC v)) (hg : B.gl x = some d) (r : ∀ A H, RV X.K A H v d) : PE X e (tE X.K sd W (ev B (.glob x))) :=
  h.weak fun σ H Q ⟨A, st, ρ, hs, rs, rl, P⟩ => by
    rw [ev, hg] at P
    exact post_ok P rs (r A H)
theorem se_tup {es : Es} {l : List Expr} {k : Nat} (h : PA X l (tEs X.K sd W (evs B es))) : PE X (.Tuple l k pos) (tE X.K sd W (ev B (.tup es))) :=
  (pe_tup h).weak fun σ H Q q => by
    obtain ⟨A, st, ρ, hs, rs, rl, P⟩ := tR.bnd (R1 := RVs X.K) (m := evs B es) (f := fun ds _ => tupK ds) (q.to fun ρ => by rw [ev])
    refine ⟨A, st, ρ, hs, rs, rl, P.imp fun vs H1 ⟨A1, s1, ds, ρ1, _, rs1, _, r, P1⟩ => ?_⟩
    unfold tupK at P1
    by_cases c : ds.length ≤ most
    · rw [if_pos c] at P1
      refine ⟨by rw [r.length]; exact le_line c, fun p hp => ?_⟩
      have nx : Nx A1 A1 H1 (upd H1 p (.tup vs)) := Nx.heap (Kp.new hp)
      exact P1 (.ref p) _ A1 nx (rs1.same (same_new hp)) (RV.tup (SqT.of upd_same) (r.mono nx))
    · rw [if_neg c] at P1
      exact P1.elim
theorem se_lst {es : Es} {l : List Expr} (h : PA X l (tEs X.K sd W (evs B es))) : PE X (.List l pos) (tE X.K sd W (ev B (.lst es))) :=
  (pe_lst h).weak fun σ H Q q => by
    obtain ⟨A, st, ρ, hs, rs, rl, P⟩ := tR.bnd (R1 := RVs X.K) (m := evs B es) (f := fun ds _ => lstK ds) (q.to fun ρ => by rw [ev])
    refine ⟨A, st, ρ, hs, rs, rl, P.imp fun vs H1 ⟨A1, s1, ds, ρ1, _, rs1, _, r, P1⟩ => ?_⟩
    unfold lstK at P1
    by_cases c : ds.length ≤ most
    · rw [if_pos c] at P1
      refine ⟨by rw [r.length]; exact le_line c, fun p hp => ?_⟩
      have nx : Nx A1 (A1 ++ [p]) H1 (upd H1 p (.lst vs)) := Nx.new hp
      exact P1 (.ref p) _ (A1 ++ [p]) nx (rs1.new hp rfl ⟨_, upd_same, r.mono nx⟩) (RV.ref (at_last rs1 p))
    · rw [if_neg c] at P1
      exact P1.elim
/-- two operands, then an operation -/
theorem two {β δ : Type} {R2' : List Addr → Hp → δ → β → Prop} {a b : Env → M D} {f : D → D → M β} {σ : L2.St} {H : Hp} {Q : δ → Hp → Prop} {QV : VK} {r : R2} (q : tR X.K sd W R2' (fun ρ => bnd (a ρ) fun x => bnd (b ρ) fun y => f x y) σ H Q)
    (h : ∀ A s H x y d1 d2, RS X.K A H s → RV X.K A H x d1 → RV X.K A H y d2 → Post X.K R2' A H (fun c d H' => W c d σ H') Q (f d1 d2 s) → r x y H QV) :
    tOp r (tE X.K sd W a) (tE X.K sd W b) σ H QV := by
  obtain ⟨A, st, ρ, hs, rs, rl, P⟩ := tR.bnd (R1 := RV X.K) (f := fun x ρ => bnd (b ρ) fun y => f x y) q
  refine ⟨A, st, ρ, hs, rs, rl, P.imp fun x H1 ⟨A1, s1, d1, ρ1, hs1, rs1, rl1, r1, P1⟩ => ?_⟩
  refine ⟨A1, s1, ρ1, hs1, rs1, rl1, (Post.bnd (R1 := RV X.K) P1).imp fun y H2 ⟨A2, s2, d2, nx, rs2, r2, P2⟩ => ?_⟩
  exact h A2 s2 H2 x y d1 d2 rs2 (r1.mono nx) r2 P2
theorem se_bin {op : Operator} {a b : E} {ea eb : Expr} (ha : PE X ea (tE X.K sd W (ev B a))) (hb : PE X eb (tE X.K sd W (ev B b))) : PE X (.BinOp ea op eb pos) (tE X.K sd W (ev B (.bin op a b))) :=
  (pe_op op_bin ha hb).weak fun σ H Q q => two (f := binD op) (q.to fun ρ => by rw [ev]) fun A s H x y d1 d2 rs r1 r2 P => ⟨A, s, d1, d2, rs, r1, r2, post_nox P fun _ _ => binD_nox _ _⟩
theorem se_cmp {op : CmpOp} {a b : E} {ea eb : Expr} (hu : X.A.units + 64 < cLine) (hm : behindInMarks op eb = false) (ha : PE X ea (tE X.K sd W (ev B a))) (hb : PE X eb (tE X.K sd W (ev B b))) :
    PE X (.Compare ea [op] [eb] pos) (tE X.K sd W (ev B (.cmp op a b))) :=
  (pe_cmpR (op_cmp hu) ha hb hm).weak fun σ H Q q => two (f := cmpK op) (q.to fun ρ => by rw [ev]) fun A s H x y d1 d2 rs r1 r2 P => by
        unfold cmpK bnd cmpB at P
        cases e : cmpD op d1 d2 s with
        | none => rw [e] at P; exact P.elim
        | some b =>
          rw [e] at P
          exact ⟨A, s, d1, d2, b, rs, r1, r2, e, post_ok P rs (.bl b)⟩
theorem se_ix {a b : E} {ea eb : Expr} (hp : PlainIx eb) (ha : PE X ea (tE X.K sd W (ev B a))) (hb : PE X eb (tE X.K sd W (ev B b))) : PE X (.Subscript ea eb pos) (tE X.K sd W (ev B (.ix a b))) :=
  (pe_ix ix_D ha hb hp).weak fun σ H Q q => two (f := ixK) (q.to fun ρ => by rw [ev]) fun A s H x y d1 d2 rs r1 r2 P => by
        unfold ixK at P
        cases e : ixD d1 d2 s with
        | none => rw [e] at P; exact P.elim
        | some d =>
          rw [e] at P
          exact ⟨A, s, d1, d2, d, rs, r1, r2, e, fun v r => post_ok P rs r⟩
theorem se_neg {a : E} {ea : Expr} (ha : PE X ea (tE X.K sd W (ev B a))) : PE X (.UnaryOp .USub ea pos) (tE X.K sd W (ev B (.neg a))) :=
  (pe_un un_neg ha).weak fun σ H Q q => by
    obtain ⟨A, st, ρ, hs, rs, rl, P⟩ := tR.bnd (R1 := RV X.K) (m := ev B a) (f := fun x _ => negK x) (q.to fun ρ => by rw [ev])
    refine ⟨A, st, ρ, hs, rs, rl, P.imp fun x H1 ⟨A1, s1, d, ρ1, _, rs1, _, r, P1⟩ => ?_⟩
    cases d with
    | int i =>
      cases r
      exact ⟨i, rfl, post_ok P1 rs1 (RV.int _)⟩
    | _ => exact P1.elim
/-! ### truth -/
theorem tru_V {A : List Addr} {H : Hp} {s : Store} {d : D} {x : V} {b : Bool} (rs : RS X.K A H s) (r : RV X.K A H x d) (h : tru s d = some b) : TruV X.K x H b := by
  have gen : ∀ {d' : D} {x' : V}, RV X.K A H x' d' → (seqOf s d').map (fun l => !l.isEmpty) = some b → (∃ a, x' = .ref a) → TruV X.K x' H b := fun {d' x'} r' h' _ => by
    cases e : seqOf s d' with
    | none => rw [e] at h'; cases h'
    | some l =>
      rw [e] at h'
      obtain ⟨a, xs, rfl, rxs, sq⟩ := seq_sq rs r' e
      have eb : b = !xs.isEmpty := by rw [rxs.nil_iff]; exact (Option.some.inj h').symm
      rcases sq with sq | sq
      · exact .inl ⟨xs, sq, eb⟩
      · exact .inr (.inl ⟨xs, sq, eb⟩)
  cases r with
  | non => exact (Option.some.inj h).symm
  | bl k => exact (Option.some.inj h).symm
  | int i => exact (Option.some.inj h).symm
  | str z =>
    have h' : (if z.length ≤ most then some ((z.length : Int) != 0) else none) = some b := h
    by_cases c : z.length ≤ most
    · rw [if_pos c] at h'
      exact ⟨le_line c, (Option.some.inj h').symm⟩
    · rw [if_neg c] at h'
      cases h'
  | tup sq q => exact gen (.tup sq q) h ⟨_, rfl⟩
  | ref q => exact gen (.ref q) h ⟨_, rfl⟩
theorem truK_of {A : List Addr} {H : Hp} {s : Store} {d : D} {x : V} {X' : XW} {Q : Bool → Hp → Prop} (rs : RS X.K A H s) (r : RV X.K A H x d) (P : Post X.K (fun _ _ b c => b = c) A H X' Q (truK d s)) : ∃ k, TruV X.K x H k ∧ tru s d = some k ∧ Q k H := by
  unfold truK at P
  cases e : tru s d with
  | none => rw [e] at P; exact P.elim
  | some b =>
    rw [e] at P
    exact ⟨b, tru_V rs r e, rfl, post_ok P rs rfl⟩
/-- an expression whose test is its value's truth -/
theorem st_val {a : E} {ea : Expr} (ha : PE X ea (tE X.K sd W (ev B a))) (he : ∀ whole, isTrue ea X.env whole = (do let v ← whole; standAt ea.pos; holding [v] (truthy v))) : PT X ea (tT X.K sd W fun ρ => truM (ev B a ρ)) :=
  (pt_truth ha he).weak fun σ H Q q => by
    obtain ⟨A, st, ρ, hs, rs, rl, P⟩ := tR.bnd (R1 := RV X.K) (m := ev B a) (f := fun d _ => truK d) q
    refine ⟨A, st, ρ, hs, rs, rl, P.imp fun x H1 ⟨A1, s1, d, ρ1, _, rs1, _, r, P1⟩ => ?_⟩
    obtain ⟨k, t, _, q⟩ := truK_of rs1 r P1
    exact ⟨k, t, q⟩
theorem bnd_assoc {α β γ : Type} (m : M α) (f : α → M β) (g : β → M γ) : bnd (bnd m f) g = bnd m fun a => bnd (f a) g := by
  funext s
  unfold bnd
  cases m s <;> rfl
theorem bnd_ret {α β : Type} (a : α) (f : α → M β) : bnd (ret a) f = f a := rfl
theorem truM_cmp (op : CmpOp) (a b : E) (ρ : Env) : truM (ev B (.cmp op a b) ρ) = bnd (ev B a ρ) fun x => bnd (ev B b ρ) fun y => cmpB op x y := by
  unfold truM
  rw [ev, bnd_assoc]
  congr
  funext x
  rw [bnd_assoc]
  congr
  funext y s
  unfold cmpK bnd cmpB
  cases cmpD op x y s <;> rfl
/-- a comparison, as a test -/
theorem st_cmp {op : CmpOp} {a b : E} {ea eb : Expr} (hu : X.A.units + 64 < cLine) (hm : behindInMarks op eb = false) (ha : PE X ea (tE X.K sd W (ev B a))) (hb : PE X eb (tE X.K sd W (ev B b))) :
    PT X (.Compare ea [op] [eb] pos) (tT X.K sd W fun ρ => truM (ev B (.cmp op a b) ρ)) :=
  (pt_cmpR (op_cmp hu) ha hb hm).weak fun σ H Q q => by
    refine two (sd := sd) (W := W) (R2' := fun _ _ b c => b = c) (Q := Q) (f := cmpB op) (q.to fun ρ => truM_cmp op a b ρ) fun A s H x y d1 d2 rs r1 r2 P => ?_
    unfold cmpB at P
    cases e : cmpD op d1 d2 s with
      | none => rw [e] at P; exact P.elim
      | some b =>
        rw [e] at P
        exact ⟨A, s, d1, d2, b, rs, r1, r2, e, b, rfl, post_ok P rs rfl⟩
theorem tru_twice (m : M D) (x : D) (k : Bool) (s : Store) (h : tru s x = some k) : truK x s = .ok k s := by
  unfold truK
  rw [h]
  rfl
theorem truM_and (a b : E) (ρ : Env) : truM (ev B (.and a b) ρ) = bnd (truM (ev B a ρ)) fun k => if k = true then truM (ev B b ρ) else ret false := by
  unfold truM
  rw [ev, bnd_assoc, bnd_assoc]
  congr
  funext x
  unfold andK
  rw [bnd_assoc]
  funext s
  cases e : tru s x with
  | none => simp only [bnd, truK, e, ofO, badM]
  | some k => cases k <;> simp [bnd, truK, e, ofO, ret]
theorem truM_or (a b : E) (ρ : Env) : truM (ev B (.or a b) ρ) = bnd (truM (ev B a ρ)) fun k => if k = true then ret true else truM (ev B b ρ) := by
  unfold truM
  rw [ev, bnd_assoc, bnd_assoc]
  congr
  funext x
  unfold orK
  rw [bnd_assoc]
  funext s
  cases e : tru s x with
  | none => simp only [bnd, truK, e, ofO, badM]
  | some k => cases k <;> simp [bnd, truK, e, ofO, ret]
theorem truM_not (a : E) (ρ : Env) : truM (ev B (.not a) ρ) = bnd (truM (ev B a ρ)) fun k => ret (!k) := by
  rw [ev]
  conv => lhs; unfold truM
  rw [bnd_assoc]
  congr
theorem st_not {a : E} {ea : Expr} (ha : PT X ea (tT X.K sd W fun ρ => truM (ev B a ρ))) : PT X (.UnaryOp .Not ea pos) (tT X.K sd W fun ρ => truM (ev B (.not a) ρ)) :=
  (pt_not ha).weak fun σ H Q q => by
    obtain ⟨A, st, ρ, hs, rs, rl, P⟩ := tR.bnd (R1 := fun _ _ b c => b = c) (m := fun ρ => truM (ev B a ρ)) (f := fun k _ => ret (!k)) (q.to fun ρ => truM_not a ρ)
    refine ⟨A, st, ρ, hs, rs, rl, P.imp fun x H1 ⟨A1, s1, d, ρ1, _, rs1, _, r, P1⟩ => ?_⟩
    subst r
    exact post_ok P1 rs1 rfl
/-- a and b, as a test -/
theorem st_and {a b : E} {ea eb : Expr} {rest : List Expr} (ha : PT X ea (tT X.K sd W fun ρ => truM (ev B a ρ))) (hb : PW X (.BoolOp .And (eb :: rest) pos) (tT X.K sd W fun ρ => truM (ev B b ρ))) :
    PW X (.BoolOp .And (ea :: eb :: rest) pos) (tT X.K sd W fun ρ => truM (ev B (.and a b) ρ)) :=
  ⟨fun wh pins s σ H Q I q => (pw_and ha hb).run wh pins s σ H Q I (by
    obtain ⟨A, st, ρ, hs, rs, rl, P⟩ := tR.bnd (R1 := fun _ _ b c => b = c) (m := fun ρ => truM (ev B a ρ)) (f := fun k ρ => if k = true then truM (ev B b ρ) else ret false) (tR.to q fun ρ => truM_and a b ρ)
    refine ⟨A, st, ρ, hs, rs, rl, P.imp fun x H1 ⟨A1, s1, d, ρ1, hs1, rs1, rl1, r, P1⟩ => ?_⟩
    subst r
    cases x with
    | true => exact ⟨A1, s1, ρ1, hs1, rs1, rl1, P1⟩
    | false => exact post_ok P1 rs1 rfl)⟩
theorem st_or {a b : E} {ea eb : Expr} {rest : List Expr} (ha : PT X ea (tT X.K sd W fun ρ => truM (ev B a ρ))) (hb : PW X (.BoolOp .Or (eb :: rest) pos) (tT X.K sd W fun ρ => truM (ev B b ρ))) :
    PW X (.BoolOp .Or (ea :: eb :: rest) pos) (tT X.K sd W fun ρ => truM (ev B (.or a b) ρ)) :=
  ⟨fun wh pins s σ H Q I q => (pw_or ha hb).run wh pins s σ H Q I (by
    obtain ⟨A, st, ρ, hs, rs, rl, P⟩ := tR.bnd (R1 := fun _ _ b c => b = c) (m := fun ρ => truM (ev B a ρ)) (f := fun k ρ => if k = true then ret true else truM (ev B b ρ)) (tR.to q fun ρ => truM_or a b ρ)
    refine ⟨A, st, ρ, hs, rs, rl, P.imp fun x H1 ⟨A1, s1, d, ρ1, hs1, rs1, rl1, r, P1⟩ => ?_⟩
    subst r
    cases x with
    | true => exact post_ok P1 rs1 rfl
    | false => exact ⟨A1, s1, ρ1, hs1, rs1, rl1, P1⟩)⟩
/-! ### and, or, not, if as values -/
theorem se_andV {a b : E} {ea eb : Expr} {rest : List Expr} (ha : PE X ea (tE X.K sd W (ev B a))) (hb : PE X (.BoolOp .And (eb :: rest) pos) (tE X.K sd W (ev B b))) : PE X (.BoolOp .And (ea :: eb :: rest) pos) (tE X.K sd W (ev B (.and a b))) := by
  refine ⟨fun pins s σ H Q I q => ?_⟩
  refine BoolOp_and (thn (ha.run pins s σ H _ I (tR.bnd (R1 := RV X.K) (m := ev B a) (f := fun x ρ => andK (ev B b ρ) x) (tR.to q fun ρ => by rw [ev]))) fun v s1 ⟨x, H1, I1, r1, A1, t1, d, ρ1, hs1, rs1, rl1, r, P1⟩ => ?_)
  obtain ⟨k, tk, ek, P2⟩ := truK_of rs1 r (Post.bnd (R1 := fun _ _ b c => b = c) P1)
  obtain ⟨A2, s2, k2, nx, rs2, e2, P3⟩ := P2
  refine wpAny_mono (tru_ok pins s1 σ H1 x v (fun c H' => c = k ∧ H' = H1) I1 r1 ⟨k, tk, rfl, rfl⟩) (fun c s2 ⟨H2, I2, hc, hH⟩ => ?_) fun _ _ z => z
  subst hc hH e2
  cases c with
  | true => exact hb.run pins s2 σ H2 Q I2 ⟨A2, _, ρ1, hs1, rs2, rl1.mono nx, P3⟩
  | false => exact ⟨x, H2, I2, r1, post_ok P3 rs2 (r.mono nx)⟩
theorem se_orV {a b : E} {ea eb : Expr} {rest : List Expr} (ha : PE X ea (tE X.K sd W (ev B a))) (hb : PE X (.BoolOp .Or (eb :: rest) pos) (tE X.K sd W (ev B b))) : PE X (.BoolOp .Or (ea :: eb :: rest) pos) (tE X.K sd W (ev B (.or a b))) := by
  refine ⟨fun pins s σ H Q I q => ?_⟩
  refine BoolOp_or (thn (ha.run pins s σ H _ I (tR.bnd (R1 := RV X.K) (m := ev B a) (f := fun x ρ => orK (ev B b ρ) x) (tR.to q fun ρ => by rw [ev]))) fun v s1 ⟨x, H1, I1, r1, A1, t1, d, ρ1, hs1, rs1, rl1, r, P1⟩ => ?_)
  obtain ⟨k, tk, ek, P2⟩ := truK_of rs1 r (Post.bnd (R1 := fun _ _ b c => b = c) P1)
  obtain ⟨A2, s2, k2, nx, rs2, e2, P3⟩ := P2
  refine wpAny_mono (tru_ok pins s1 σ H1 x v (fun c H' => c = k ∧ H' = H1) I1 r1 ⟨k, tk, rfl, rfl⟩) (fun c s2 ⟨H2, I2, hc, hH⟩ => ?_) fun _ _ z => z
  subst hc hH e2
  cases c with
  | true => exact ⟨x, H2, I2, r1, post_ok P3 rs2 (r.mono nx)⟩
  | false => exact hb.run pins s2 σ H2 Q I2 ⟨A2, _, ρ1, hs1, rs2, rl1.mono nx, P3⟩
theorem se_one {op : BoolOp} {m : Env → M D} {ea : Expr} (ha : PE X ea (tE X.K sd W m)) : PE X (.BoolOp op [ea] pos) (tE X.K sd W m) := pe_one ha
theorem se_ite {c a b : E} {ec ea eb : Expr} (hc : PT X ec (tT X.K sd W fun ρ => truM (ev B c ρ))) (ha : PE X ea (tE X.K sd W (ev B a))) (hb : PE X eb (tE X.K sd W (ev B b))) : PE X (.IfExp ec ea eb pos) (tE X.K sd W (ev B (.ite c a b))) :=
  (pe_ifExp hc ha hb).weak fun σ H Q q => by
    obtain ⟨A, st, ρ, hs, rs, rl, P⟩ := tR.bnd (R1 := fun _ _ b c => b = c) (m := fun ρ => truM (ev B c ρ)) (f := fun k ρ => if k = true then ev B a ρ else ev B b ρ) (q.to fun ρ => by rw [ev])
    refine ⟨A, st, ρ, hs, rs, rl, P.imp fun x H1 ⟨A1, s1, d, ρ1, hs1, rs1, rl1, r, P1⟩ => ?_⟩
    subst r
    cases x with
    | true => exact ⟨A1, s1, ρ1, hs1, rs1, rl1, P1⟩
    | false => exact ⟨A1, s1, ρ1, hs1, rs1, rl1, P1⟩
/-- not a, as a value -/
theorem se_not {a : E} {ea : Expr} (ha : PE X ea (tE X.K sd W (ev B a))) : PE X (.UnaryOp .Not ea pos) (tE X.K sd W (ev B (.not a))) := by
  refine ⟨fun pins s σ H Q I q => ?_⟩
  refine UnaryOp_ (thn (ha.run pins s σ H _ I (tR.bnd (R1 := RV X.K) (m := ev B a) (f := fun x _ => bnd (truK x) notK) (tR.to q fun ρ => by
    rw [ev]
    unfold truM
    rw [bnd_assoc]))) fun v s1 ⟨x, H1, I1, r1, A1, t1, d, ρ1, hs1, rs1, rl1, r, P1⟩ => ?_)
  obtain ⟨k, tk, ek, P2⟩ := truK_of rs1 r (Post.bnd (R1 := fun _ _ b c => b = c) P1)
  obtain ⟨A2, s2, k2, nx, rs2, e2, P3⟩ := P2
  refine not_of (wpAny_mono (tru_ok pins s1 σ H1 x v (fun c H' => c = k ∧ H' = H1) I1 r1 ⟨k, tk, rfl, rfl⟩) (fun c s2 ⟨H2, I2, hc, hH⟩ => ?_) fun _ _ z => z)
  subst hc hH e2
  exact ⟨.bl (!c), H2, I2, rfl, post_ok P3 rs2 (RV.bl _)⟩
/-! ### arguments -/
def notStar : Expr → Bool
  | .Starred .. => false
  | _ => true
theorem star_cons {e : Expr} {es : List Expr} {env : PySem.Env} (h : notStar e = true) : starEach (e :: es) env = (false, eval e env) :: starEach es env := by
  cases e <;> first | rfl | cases h
theorem star_any {env : PySem.Env} : ∀ {es : List Expr}, es.all notStar = true → (backTo pos (starEach es env)).any (·.1) = false
  | [], _ => rfl
  | e :: es, h => by
    rw [List.all_cons, Bool.and_eq_true] at h
    rw [star_cons h.1]
    show (false || (backTo pos (starEach es env)).any (·.1)) = false
    rw [star_any h.2]
    rfl
theorem sa_nil : PA X [] (tEs X.K sd W (evs B .nil)) := pa_nil.weak fun σ H Q ⟨A, st, ρ, hs, rs, rl, P⟩ => by
  rw [evs] at P
  exact post_ok P rs RVs.nil
theorem sa_cons {e : E} {es : Es} {ee : Expr} {l : List Expr} (h : notStar ee = true) (he : PE X ee (tE X.K sd W (ev B e))) (hr : PA X l (tEs X.K sd W (evs B es))) : PA X (ee :: l) (tEs X.K sd W (evs B (.cons e es))) :=
  (pa_cons he hr (star_cons h)).weak fun σ H Q q => by
    obtain ⟨A, st, ρ, hs, rs, rl, P⟩ := tR.bnd (R1 := RV X.K) (m := ev B e) (f := fun d ρ => bnd (evs B es ρ) fun ds => ret (d :: ds)) (q.to fun ρ => by rw [evs])
    refine ⟨A, st, ρ, hs, rs, rl, P.imp fun x H1 ⟨A1, s1, d, ρ1, hs1, rs1, rl1, r, P1⟩ => ?_⟩
    refine ⟨A1, s1, ρ1, hs1, rs1, rl1, (Post.bnd (R1 := RVs X.K) P1).imp fun vs H2 ⟨A2, s2, ds, nx, rs2, r2, P2⟩ => ?_⟩
    exact post_ok P2 rs2 (RVs.cons (r.mono nx) r2)
theorem sk_nil : PK X [] (tEs X.K sd W (evs B .nil)) := ⟨fun pos pins s σ H Q I ⟨A, st, ρ, hs, rs, rl, P⟩ => pk_nil.run pos pins s σ H Q I (by
  rw [evs] at P
  exact post_ok P rs RVs.nil)⟩
theorem sk_cons {e : E} {es : Es} {ee : Expr} {nm : Option Str} {kp : Pos} {l : List Keyword} (he : PE X ee (tE X.K sd W (ev B e))) (hr : PK X l (tEs X.K sd W (evs B es))) : PK X (⟨nm, ee, kp⟩ :: l) (tEs X.K sd W (evs B (.cons e es))) :=
  ⟨fun pos pins s σ H Q I q => (pk_cons he hr).run pos pins s σ H Q I (by
    obtain ⟨A, st, ρ, hs, rs, rl, P⟩ := tR.bnd (R1 := RV X.K) (m := ev B e) (f := fun d ρ => bnd (evs B es ρ) fun ds => ret (d :: ds)) (tR.to q fun ρ => by rw [evs])
    refine ⟨A, st, ρ, hs, rs, rl, P.imp fun x H1 ⟨A1, s1, d, ρ1, hs1, rs1, rl1, r, P1⟩ => ?_⟩
    refine ⟨A1, s1, ρ1, hs1, rs1, rl1, (Post.bnd (R1 := RVs X.K) P1).imp fun vs H2 ⟨A2, s2, ds, nx, rs2, r2, P2⟩ => ?_⟩
    exact post_ok P2 rs2 (RVs.cons (r.mono nx) r2))⟩
end
end RI
set_option maxRecDepth 100000
set_option maxHeartbeats 4000000
/-! RF: calls; the checker of expressions, and that what it lets through keeps what the machine does. -/
namespace RI
open PySem L2 PyProof.Rows
variable [Xs]
def Es.len : Es → Nat
  | .nil => 0
  | .cons _ es => es.len + 1
section
variable {K : PySem.W.Frag} {sd : L2.St → Prop} {W : WX} {A : List Addr} {H : Hp}
theorem Post.bndE {α β γ δ : Type} {R1 : List Addr → Hp → γ → α → Prop} {R2 : List Addr → Hp → δ → β → Prop} {X : XW} {Q : δ → Hp → Prop} {m : M α} {f : α → M β} {s : Store} (h : Post K R2 A H X Q (RI.bnd m f s)) :
    Post K R1 A H X (fun x H1 => ∃ A1 s1 d, Nx A A1 H H1 ∧ RS K A1 H1 s1 ∧ R1 A1 H1 x d ∧ m s = .ok d s1 ∧ Post K R2 A1 H1 X Q (f d s1)) (m s) := by
  unfold RI.bnd at h
  cases e : m s with
  | ok d s1 =>
    rw [e] at h
    exact fun v H1 A1 x rs r => ⟨A1, s1, d, x, rs, r, rfl, h.re x⟩
  | ex y s1 =>
    rw [e] at h
    exact h
  | bad =>
    rw [e] at h
    exact h
theorem evs_len {B : Tb} : ∀ {es : Es} {ρ : Env} {s s' : Store} {ds : List D}, evs B es ρ s = .ok ds s' → ds.length = es.len
  | .nil, ρ, s, s', ds, h => by
    rw [evs] at h
    cases h
    rfl
  | .cons e es, ρ, s, s', ds, h => by
    rw [evs] at h
    unfold bnd at h
    cases q : ev B e ρ s with
    | ok d s1 =>
      rw [q] at h
      dsimp only at h
      cases q2 : evs B es ρ s1 with
      | ok l s2 =>
        rw [q2] at h
        cases h
        show l.length + 1 = es.len + 1
        rw [evs_len q2]
      | ex x t => rw [q2] at h; cases h
      | bad => rw [q2] at h; cases h
    | ex x t => rw [q] at h; cases h
    | bad => rw [q] at h; cases h
end
section
variable {X : Cx} {sd : L2.St → Prop} {W : WX} {B : Tb} {pos p : Pos}
/-- a call of a def of the program, by values -/
def OwnCall (X : Cx) (W : WX) (m : List D → M D) (x : Str) (n : Nat) : Prop :=
  ∃ f, X.mg x = some (.ref f) ∧ PySem.W.keepIn X.K (.ref f) = true ∧
    ∀ (pins : List (Addr × Obj)) (s : Shared) (σ : L2.St) (H : Hp) (vs : List V) (us : List Value) (Q : VK), Inv X pins σ H s → Vals vs us →
      (∃ A st ds, RS X.K A H st ∧ RVs X.K A H vs ds ∧ ds.length = n ∧ Post X.K (RV X.K) A H (fun c d H' => W c d σ H') Q (m ds st)) → wpAny (model X.prog X.w) X.A (call (.ref f) us) (EP X pins σ Q) X.xe s
theorem se_call0 {x : Str} (h : OwnCall X W (B.call x) x 0) (hg : Gl X x) (hdb : (x == ("__debug__" : Str)) = false) : PE X (.Call (.Name x p) [] [] pos) (tE X.K sd W (ev B (.call x .nil))) := by
  obtain ⟨f, hm, hk, run⟩ := h
  refine ⟨fun pins s σ H Q I ⟨A, st, ρ, hs, rs, rl, P⟩ => ?_⟩
  rw [ev, evs, bnd_ret] at P
  refine wpAny_Call_Name_kw (ld_glob I hg hm ?_ hdb)
  exact PySem.W.callWith_K0 I.kIn hk (run pins s σ H [] [] Q I .nil ⟨A, st, [], rs, RVs.nil, rfl, P⟩)
theorem se_call {x : Str} {e : Expr} {l : List Expr} {es : Es} (h : OwnCall X W (B.call x) x es.len) (hg : Gl X x) (hdb : (x == ("__debug__" : Str)) = false) (hl : (e :: l).all notStar = true) (ha : PA X (e :: l) (tEs X.K sd W (evs B es))) :
    PE X (.Call (.Name x p) (e :: l) [] pos) (tE X.K sd W (ev B (.call x es))) := by
  obtain ⟨f, hm, hk, run⟩ := h
  rw [List.all_cons, Bool.and_eq_true] at hl
  refine ⟨fun pins s σ H Q I ⟨A, st, ρ, hs, rs, rl, P⟩ => ?_⟩
  rw [ev] at P
  refine wpAny_Call_Name_kw (ld_glob I hg hm ?_ hdb)
  refine PySem.W.callWith_K (h₀ := X.base) I.ok.mod.kin hk (thn (ha.run pos pins s σ H _ I ⟨A, st, ρ, hs, rs, rl, Post.bndE (R1 := RVs X.K) P⟩) fun us s1 ⟨vs, H1, I1, r, A1, s2, ds, nx, rs1, r1, el, P1⟩ => ⟨I1.kIn, ?_⟩) (star_cons hl.1) (star_any hl.2)
  exact run pins s1 σ H1 vs us Q I1 r ⟨A1, s2, ds, rs1, r1, evs_len el, P1⟩
/-- .. with keywords -/
def OwnCallK (X : Cx) (W : WX) (m : List D → List D → M D) (x : Str) (n : Nat) (ks : List Str) : Prop :=
  ∃ f, X.mg x = some (.ref f) ∧ PySem.W.keepIn X.K (.ref f) = true ∧
    ∀ (pins : List (Addr × Obj)) (s : Shared) (σ : L2.St) (H : Hp) (vs zs : List V) (us ws : List Value) (Q : VK), Inv X pins σ H s → Vals vs us → Vals zs ws →
      (∃ A st ds es, RS X.K A H st ∧ RVs X.K A H vs ds ∧ RVs X.K A H zs es ∧ ds.length = n ∧ es.length = ks.length ∧ Post X.K (RV X.K) A H (fun c d H' => W c d σ H') Q (m ds es st)) → wpAny (model X.prog X.w) X.A (call (.ref f) us (ks.zip ws)) (EP X pins σ Q) X.xe s
def kwNames : List Keyword → List (Option Str)
  | [] => []
  | ⟨n, _, _⟩ :: r => n :: kwNames r
theorem kw_each {env : PySem.Env} : ∀ (kws : List Keyword), (backToKw pos (keywordEach kws env)).map (·.1) = kwNames kws
  | [] => rfl
  | ⟨n, e, q⟩ :: r => by
    show n :: (backToKw pos (keywordEach r env)).map (·.1) = n :: kwNames r
    rw [kw_each r]
theorem kw_all {env : PySem.Env} {kws : List Keyword} {ks : List Str} (h : kwNames kws = ks.map some) : (backToKw pos (keywordEach kws env)).all (·.1.isSome) = true ∧ (backToKw pos (keywordEach kws env)).filterMap (·.1) = ks ∧ (backToKw pos (keywordEach kws env)).any (·.1.isNone) = false := by
  have e := kw_each (pos := pos) (env := env) kws
  rw [h] at e
  have g : ∀ {l : List (Option Str × Sem Value)} {ks : List Str}, l.map (·.1) = ks.map some → l.all (·.1.isSome) = true ∧ l.filterMap (·.1) = ks ∧ l.any (·.1.isNone) = false := by
    intro l
    induction l with
    | nil =>
      intro ks h
      cases ks with
      | nil => exact ⟨rfl, rfl, rfl⟩
      | cons _ _ => simp at h
    | cons a l ih =>
      intro ks h
      cases ks with
      | nil => simp at h
      | cons k ks =>
        simp only [List.map_cons, List.cons.injEq] at h
        obtain ⟨a1, a2, a3⟩ := ih h.2
        refine ⟨?_, ?_, ?_⟩
        · rw [List.all_cons, h.1, a1]; rfl
        · rw [List.filterMap_cons, h.1, a2]
        · rw [List.any_cons, h.1, a3]; rfl
  exact g e
theorem se_callk {x : Str} {e : Expr} {l : List Expr} {es kes : Es} {ks : List Str} {kws : List Keyword} (h : OwnCallK X W (B.callk x ks) x es.len ks) (hn : kwNames kws = ks.map some) (hlen : kes.len = ks.length) (hg : Gl X x) (hdb : (x == ("__debug__" : Str)) = false)
    (hl : (e :: l).all notStar = true) (ha : PA X (e :: l) (tEs X.K sd W (evs B es))) (hkw : PK X kws (tEs X.K sd W (evs B kes))) :
    PE X (.Call (.Name x p) (e :: l) kws pos) (tE X.K sd W (ev B (.callk x es ks kes))) := by
  obtain ⟨f, hm, hk, run⟩ := h
  obtain ⟨k1, k2, k3⟩ := kw_all (pos := pos) (env := X.env) hn
  rw [List.all_cons, Bool.and_eq_true] at hl
  refine ⟨fun pins s σ H Q I ⟨A, st, ρ, hs, rs, rl, P⟩ => ?_⟩
  rw [ev] at P
  refine wpAny_Call_Name_kw (ld_glob I hg hm ?_ hdb)
  refine PySem.W.callWith_KW (h₀ := X.base) I.ok.mod.kin hk k1 (thn (ha.run pos pins s σ H _ I ⟨A, st, ρ, hs, rs, rl, Post.bndE (R1 := RVs X.K) P⟩) fun us s1 ⟨vs, H1, I1, r, A1, s2, ds, nx, rs1, r1, el, P1⟩ => ?_) (by
      rw [k3, star_cons hl.1]
      show ((false || (backTo pos (starEach l X.env)).any (·.1)) || false) = false
      rw [star_any hl.2]
      rfl) (star_cons hl.1)
  refine thn (hkw.run pos pins s1 σ H1 _ I1 ⟨A1, s2, ρ, hs, rs1, rl.mono nx, Post.bndE (R1 := RVs X.K) P1⟩) fun ws s3 ⟨zs, H2, I2, rz, A2, s4, fs, nx2, rs2, r2, el2, P2⟩ => ⟨I2.kIn, ?_⟩
  rw [k2]
  exact run pins s3 σ H2 vs zs us ws Q I2 r rz ⟨A2, s4, ds, fs, rs2, r1.mono nx2, r2, evs_len el, (evs_len el2).trans hlen, P2⟩
/-- a def's promise, as the language sees it: called with n values it does what m computes -/
def FnAt (P : Program) (w : World) (K : PySem.W.Frag) (mg : Str → Option Value) (base : Heap) (Ar : Around) (m : List D → M D) (x : Str) (n : Nat) : Prop :=
  ∃ (k : Nat) (f : Addr) (fd : FuncData) (ps : List Str) (sp : Sp) (ds : List Value) (dvs : List V), mg x = some (.ref f) ∧ PySem.W.keepIn K (.ref f) = true ∧ FnOk P w K mg base (L2.CX P w) k f fd ps sp ∧ Room k Ar ∧ Binds K fd ps ds ∧ Vals dvs ds ∧
    ∀ (A : List Addr) (st : Store) (H : Hp) (vs : List V) (es : List D) (Q : VK) (E : XK), RS K A H st → RVs K A H vs es → es.length = n → Post K (RV K) A H E Q (m es st) → sp (vs ++ dvs) H Q E
theorem FnAt.own {m : List D → M D} {x : Str} {n : Nat} (h : FnAt X.prog X.w X.K X.mg X.base X.A m x n) (tk : Takes X W) : OwnCall X W m x n := by
  obtain ⟨k, f, fd, ps, sp, ds, dvs, hm, hk, F, hr, hb, hd, q⟩ := h
  refine ⟨f, hm, hk, fun pins s σ H vs us Q I r ⟨A, st, es, rs, rv, hl, P⟩ => ?_⟩
  exact run_fnSD (E := WE W) F hr hb hd (passAt tk σ) I r (q A st H vs es Q _ rs rv hl P)
/-- .. with keywords -/
def FnAtK (P : Program) (w : World) (K : PySem.W.Frag) (mg : Str → Option Value) (base : Heap) (Ar : Around) (m : List D → List D → M D) (x : Str) (n : Nat) (ks : List Str) : Prop :=
  ∃ (k : Nat) (f : Addr) (fd : FuncData) (ps : List Str) (sp : Sp) (g : List Value → List Value → List Value) (gV : List V → List V → List V), mg x = some (.ref f) ∧ PySem.W.keepIn K (.ref f) = true ∧ FnOk P w K mg base (L2.CX P w) k f fd ps sp ∧ Room k Ar ∧ KBn K fd ps n ks g gV ∧
    ∀ (A : List Addr) (st : Store) (H : Hp) (vs zs : List V) (es fs : List D) (Q : VK) (E : XK), RS K A H st → RVs K A H vs es → RVs K A H zs fs → es.length = n → fs.length = ks.length → Post K (RV K) A H E Q (m es fs st) → sp (gV vs zs) H Q E
theorem FnAtK.own {m : List D → List D → M D} {x : Str} {n : Nat} {ks : List Str} (h : FnAtK X.prog X.w X.K X.mg X.base X.A m x n ks) (tk : Takes X W) : OwnCallK X W m x n ks := by
  obtain ⟨k, f, fd, ps, sp, g, gV, hm, hk, F, hr, hb, q⟩ := h
  refine ⟨f, hm, hk, fun pins s σ H vs zs us ws Q I r rz ⟨A, st, es, fs, rs, rv, rz2, hl, hl2, P⟩ => ?_⟩
  have sp2 := q A st H vs zs es fs Q (WE W σ) rs rv rz2 hl hl2 P
  have l1 : us.length = n := by rw [← r.length, rv.length]; exact hl
  have l2 : ws.length = ks.length := by rw [← rz.length, rz2.length]; exact hl2
  refine wpAny_call (codeAny_mono (F.run X.A X.stack s H ⟨us, ks.zip ws⟩ (g us ws) (gV vs zs) Q (WE W σ) hr I.env0 (hb.to s us ws I.kIn l1 l2) (hb.rel r rz) sp2) fun rr s' hq => ?_)
  cases rr with
  | error e => exact passAt tk σ pins H s e s' I hq
  | ok fl =>
    cases fl with
    | ret u => exact I.after hq
    | next => exact False.elim hq
    | brk => exact False.elim hq
    | cont => exact False.elim hq
/-! ### built-in functions -/
def Bi.nm : Bi → Str
  | .len => "len" | .abs => "abs" | .gcd => "gcd" | .int => "int" | .list => "list" | .tuple => "tuple"
def Bi.val : Bi → Value
  | .len => .builtin "len" | .abs => .builtin "abs" | .gcd => .builtin "math.gcd" | .int => .type "int" | .list => .type "list" | .tuple => .type "tuple"
/-- brought in by an import -/
def Bi.imp : Bi → Bool
  | .gcd => true
  | _ => false
theorem bi_ok (f : Bi) : CallR X f.val (rBi X.K f) := by
  cases f
  · exact bi_len
  · exact bi_abs
  · exact bi_gcd
  · exact bi_int
  · exact bi_list
  · exact bi_tuple
def BiAt (X : Cx) (f : Bi) : Prop := if f.imp = true then X.mg f.nm = some f.val else X.mg f.nm = none
theorem boot_bi (f : Bi) (h : f.imp = false) : bootBuiltins f.nm = some f.val := by
  cases f <;> first | decide +kernel | cases h
theorem Bi.val_kind (f : Bi) : (∃ id, f.val = .builtin id) ∨ ∃ T, f.val = .type T := by
  cases f <;> first | exact .inl ⟨_, rfl⟩ | exact .inr ⟨_, rfl⟩
theorem Bi.nm_ok (f : Bi) : f.nm ≠ "__name__" ∧ (f.nm == ("__debug__" : Str)) = false := by cases f <;> decide +kernel
theorem se_bi {f : Bi} {e : Expr} {l : List Expr} {es : Es} (h : BiAt X f) (hg : Gl X f.nm) (hl : (e :: l).all notStar = true) (ha : PA X (e :: l) (tEs X.K sd W (evs B es))) :
    PE X (.Call (.Name f.nm p) (e :: l) [] pos) (tE X.K sd W (ev B (.bi f es))) := by
  rw [List.all_cons, Bool.and_eq_true] at hl
  refine ⟨fun pins s σ H Q I ⟨A, st, ρ, hs, rs, rl, P⟩ => ?_⟩
  rw [ev] at P
  have go : wpAny (model X.prog X.w) X.A (callWith pos f.val [] (backTo pos (starEach (e :: l) X.env)) (backToKw pos (keywordEach [] X.env))) (EP X pins σ Q) X.xe s := by
    have run := thn (ha.run pos pins s σ H _ I ⟨A, st, ρ, hs, rs, rl, Post.bnd (R1 := RVs X.K) P⟩) fun us s1 (h : AP X pins σ _ us s1) => (show wpAny (model X.prog X.w) X.A (call f.val us) (EP X pins σ Q) X.xe s1 from by
      obtain ⟨vs, H1, I1, r, A1, s2, ds, nx, rs1, r1, P1⟩ := h
      exact bi_ok f pins s1 σ H1 vs us Q I1 r ⟨A1, s2, ds, rs1, r1, post_nox P1 fun _ _ => biD_nox _ _⟩)
    rcases f.val_kind with ⟨id, e1⟩ | ⟨T, e1⟩
    · rw [e1] at run ⊢
      exact PyProof.Rows.callWith_builtin1 run (star_cons hl.1) (star_any hl.2)
    · rw [e1] at run ⊢
      exact PyProof.Rows.callWith_type1 run (star_cons hl.1) (star_any hl.2)
  refine wpAny_Call_Name_kw ?_
  unfold BiAt at h
  by_cases c : f.imp = true
  · rw [if_pos c] at h
    exact ld_glob I hg h go f.nm_ok.2
  · rw [if_neg c] at h
    exact ld_blt I hg h (boot_bi f (by simpa using c)) go f.nm_ok.1 f.nm_ok.2
/-! ### isinstance -/
def Ty.snm : Ty → Str
  | .int => "int" | .bool => "bool" | .str => "str" | .tuple => "tuple" | .list => "list" | .dict => "dict"
theorem boot_ty (t : Ty) : bootBuiltins t.snm = some (.type t.nm) := by cases t <;> decide +kernel
theorem Ty.snm_ok (t : Ty) : t.snm ≠ "__name__" ∧ (t.snm == ("__debug__" : Str)) = false := by cases t <;> decide +kernel
theorem boot_isi : bootBuiltins ("isinstance" : Str) = some (.builtin "isinstance") := by decide +kernel
theorem se_isi {a : E} {ea : Expr} {t : Ty} {p2 : Pos} (h1 : X.mg "isinstance" = none) (g1 : Gl X "isinstance") (h2 : X.mg t.snm = none) (g2 : Gl X t.snm) (hl : notStar ea = true) (ha : PE X ea (tE X.K sd W (ev B a))) :
    PE X (.Call (.Name "isinstance" p) [ea, .Name t.snm p2] [] pos) (tE X.K sd W (ev B (.isi a t))) :=
  (pe_callB (is_D (t := t)) g1 h1 boot_isi (pa_cons ha (pa_cons (pe_bltn (v := .ty t.nm) g2 h2 (boot_ty t) rfl t.snm_ok.1 t.snm_ok.2) pa_nil) (star_cons hl)) (by decide +kernel) (by decide +kernel) (star_cons hl)).weak fun σ H Q q => by
    obtain ⟨A, st, ρ, hs, rs, rl, P⟩ := tR.bnd (R1 := RV X.K) (m := ev B a) (f := fun x _ => isiK t x) (q.to fun ρ => by rw [ev])
    refine ⟨A, st, ρ, hs, rs, rl, P.imp fun x H1 ⟨A1, s1, d, ρ1, hs1, rs1, rl1, r, P1⟩ => ?_⟩
    unfold isiK at P1
    cases e : tyD s1 t d with
    | none => rw [e] at P1; exact P1.elim
    | some b =>
      rw [e] at P1
      exact ⟨A1, s1, d, x, b, rfl, rs1, r, e, post_ok P1 rs1 (RV.bl _)⟩
/-- isinstance(e, C), e the exception that a suite handles: what it says stands in the context -/
def ExIs (X : Cx) (sd : L2.St → Prop) (i : Nat) (t : Str) (b : Bool) : Prop :=
  ∃ (a : Addr) (v : V) (u : Value), (∀ σ, sd σ → σ[i]? = some (some (.ref a))) ∧ RelV v u ∧ (X.mg t = some u ∨ (X.mg t = none ∧ bootBuiltins t = some u ∧ t ≠ "__name__")) ∧
    CallR X (.builtin "isinstance") (fun xs H Q => xs = [.ref a, v] ∧ Q (.bl b) H)
theorem se_exis {i : Nat} {n t : Str} {p1 p2 : Pos} {x : Exn} (hx : B.exn = some x) (h : x.fs = [] → ExIs X sd i t (B.sub x.cls t)) (h1 : X.mg "isinstance" = none) (g1 : Gl X "isinstance") (hv : PE X (.Name n p1) (tVar i)) (g2 : Gl X t) (hdb : (t == ("__debug__" : Str)) = false) :
    PE X (.Call (.Name "isinstance" p) [.Name n p1, .Name t p2] [] pos) (tE X.K sd W (ev B (.exis t))) := by
  by_cases c : x.fs = []
  · obtain ⟨a, v, u, hi, r, ht, hc⟩ := h c
    have hT : PE X (.Name t p2) (tC v) := by
      rcases ht with m | ⟨m, b, nn⟩
      · exact pe_glob g2 m r hdb
      · exact pe_bltn g2 m b r nn hdb
    refine (pe_callB hc g1 h1 boot_isi (pa_cons hv (pa_cons hT pa_nil)) (by decide +kernel) (by decide +kernel)).weak fun σ H Q ⟨A, st, ρ, hs, rs, rl, P⟩ => ?_
    rw [ev, hx, Option.bind_some, c] at P
    exact ⟨.ref a, hi σ hs, rfl, post_ok P rs (RV.bl _)⟩
  · refine ⟨fun pins s σ H Q I ⟨A, st, ρ, hs, rs, rl, P⟩ => ?_⟩
    have e : x.fs.isEmpty = false := by
      cases q : x.fs with
      | nil => exact absurd q c
      | cons _ _ => rfl
    rw [ev, hx, Option.bind_some, e] at P
    exact P.elim
/-! ### methods of lists -/
theorem se_app {o a : E} {eo ea : Expr} {apos : Pos} (hb : attributeBase eo "append" X.env (eval eo X.env) = eval eo X.env) (hline : (apos.endLine == pos.line) = true) (hl : notStar ea = true) (ho : PE X eo (tE X.K sd W (ev B o))) (ha : PE X ea (tE X.K sd W (ev B a))) :
    PE X (.Call (.Attribute eo "append" apos) [ea] [] pos) (tE X.K sd W (ev B (.meth o .append (.cons a .nil)))) :=
  (pe_bm PySem.F.plainAttrs_list PySem.F.slot_list_append PySem.F.type_list_append mt_app ho (sa_cons hl ha sa_nil) hb (by
    rw [star_cons hl]
    rfl) hline (star_cons hl) rfl).weak fun σ H Q q => by
    obtain ⟨A, st, ρ, hs, rs, rl, P⟩ := tR.bnd (R1 := RV X.K) (m := ev B o) (f := fun x ρ => bnd (rcvK .append x) fun _ => bnd (evs B (.cons a .nil) ρ) fun ds => mtD .append x ds) (q.to fun ρ => by rw [ev])
    refine ⟨A, st, ρ, hs, rs, rl, P.imp fun x H1 ⟨A1, s1, d, ρ1, hs1, rs1, rl1, r, P1⟩ => ?_⟩
    have P1' : Post X.K (RV X.K) A1 H1 (fun c d H' => W c d σ H') Q (if rcvOk .append s1 d = true then bnd (evs B (.cons a .nil) ρ1) (fun ds => mtD .append d ds) s1 else .bad) := by
      unfold bnd rcvK at P1
      by_cases c : rcvOk .append s1 d = true
      · rw [if_pos c] at P1 ⊢
        exact P1
      · rw [if_neg c] at P1
        exact P1.elim
    by_cases c : rcvOk .append s1 d = true
    · rw [if_pos c] at P1'
      refine ⟨?_, A1, s1, ρ1, hs1, rs1, rl1, (Post.bnd (R1 := RVs X.K) P1').imp fun vs H2 ⟨A2, s2, ds, nx, rs2, r2, P2⟩ => ?_⟩
      · cases d with
        | ref n =>
          have c' : (match s1[n]? with
            | some (.lst _) => true
            | _ => false) = true := c
          cases e : s1[n]? with
          | none => rw [e] at c'; cases c'
          | some ob =>
            rw [e] at c'
            cases ob with
            | lst l =>
              cases r with
              | ref ea =>
                obtain ⟨xs, h, _⟩ := rs1.at_ n _ _ ea e
                exact .inl ⟨rfl, xs, SqL.of h⟩
            | _ => cases c'
        | _ => cases c
      · exact ⟨A2, s2, d, ds, rs2, r.mono nx, r2, post_nox P2 fun _ _ => mtD_nox _ _⟩
    · rw [if_neg c] at P1'
      exact P1'.elim
end
end RI
set_option maxRecDepth 100000
set_option maxHeartbeats 4000000
/-! RG: the checker of expressions: what it lets through keeps what the machine does. -/
namespace RI
open PySem L2 PyProof.Rows
variable [Xs]
section
variable {X : Cx} {sd : L2.St → Prop} {W : WX} {B : Tb} {pos p : Pos}
/-! ### displays of dicts -/
theorem pairs_len : ∀ ps : List (V × V), (ps.flatMap fun p => [p.1, p.2]).length = 2 * ps.length
  | [] => rfl
  | p :: ps => by
    rw [List.flatMap_cons, List.length_append, pairs_len ps]
    simp only [List.length_cons, List.length_nil]
    omega
theorem vals_dic {A : List Addr} {H : Hp} : ∀ {ds : List D} {vs : List V}, keysOk ds = true → RVs X.K A H vs ds → ∀ {ps : List (V × V)}, vs = ps.flatMap (fun p => [p.1, p.2]) → ∃ kvs : List (Key × V), ps = kvs.map fun kv => (kV kv.1, kv.2)
  | [], vs, _, r, ps, e => by
    cases r
    cases ps with
    | nil => exact ⟨[], rfl⟩
    | cons p ps => simp at e
  | [d], vs, h, r, ps, e => by
    cases d <;> cases h
  | d :: d2 :: ds, vs, h, r, ps, e => by
    cases r with
    | cons r1 r2 =>
      cases r2 with
      | cons r3 r4 =>
        cases ps with
        | nil => simp at e
        | cons p ps =>
          simp only [List.flatMap_cons, List.cons_append, List.nil_append, List.cons.injEq] at e
          obtain ⟨e1, e2, e3⟩ := e
          have hk : keysOk ds = true ∧ ∃ k : Key, p.1 = kV k := by
            cases d with
            | int i =>
              cases r1
              exact ⟨h, .inl i, e1.symm⟩
            | str i =>
              cases r1
              exact ⟨h, .inr i, e1.symm⟩
            | _ => cases h
          obtain ⟨k, hk2⟩ := hk.2
          obtain ⟨kvs, q⟩ := vals_dic hk.1 r4 e3
          exact ⟨(k, p.2) :: kvs, by rw [q, List.map_cons, ← hk2]⟩
/-- the pairs of a display -/
def DicP (X : Cx) (B : Tb) (W : WX) (sd : L2.St → Prop) (pos : Pos) (es : Es) (ks : List (Option Expr)) (ws : List Expr) : Prop :=
    ∃ trs, PPs X pos ks ws trs ∧ ks.all (·.isSome) = true ∧ ks.length = ws.length ∧ es.len = 2 * ks.length ∧
      ∀ σ H (Q : List (V × V) → Hp → Prop), tR X.K sd W (fun A H (vs : List (V × V)) ds => RVs X.K A H (vs.flatMap fun p => [p.1, p.2]) ds) (evs B es) σ H Q → tPairs trs σ H Q
theorem dicP_nil : DicP X B W sd pos .nil [] [] := ⟨[], pps_nil, rfl, rfl, rfl, fun σ H Q ⟨A, st, ρ, hs, rs, rl, P⟩ => by
    rw [evs] at P
    exact post_ok P rs RVs.nil⟩
theorem dicP_cons {k v : E} {ek w : Expr} {es : Es} {ks : List (Option Expr)} {ws : List Expr} (hk : PE X ek (tE X.K sd W (ev B k))) (hv : PE X w (tE X.K sd W (ev B v))) (h : DicP X B W sd pos es ks ws) : DicP X B W sd pos (.cons k (.cons v es)) (some ek :: ks) (w :: ws) := by
    obtain ⟨trs, q, a1, a2, a4, a3⟩ := h
    refine ⟨_, pps_cons hk hv q, by rw [List.all_cons, a1]; rfl, by rw [List.length_cons, List.length_cons, a2], (by
      show es.len + 1 + 1 = 2 * (ks.length + 1)
      omega), fun σ H Q q => ?_⟩
    obtain ⟨A, st, ρ, hs, rs, rl, P⟩ := tR.bnd (R1 := RV X.K) (m := ev B k) (f := fun d ρ => bnd (evs B (.cons v es) ρ) fun ds => ret (d :: ds)) (q.to fun ρ => by rw [evs])
    refine ⟨A, st, ρ, hs, rs, rl, P.imp fun x H1 ⟨A1, s1, d, ρ1, hs1, rs1, rl1, r, P1⟩ => ?_⟩
    rw [evs, bnd_assoc] at P1
    refine ⟨A1, s1, ρ1, hs1, rs1, rl1, (Post.bnd (R1 := RV X.K) P1).imp fun y H2 ⟨A2, s2, d2, nx, rs2, r2, P2⟩ => ?_⟩
    rw [bnd_assoc] at P2
    refine a3 σ H2 _ ⟨A2, s2, ρ1, hs1, rs2, rl1.mono nx, (Post.bnd (R1 := fun A H (vs : List (V × V)) ds => RVs X.K A H (vs.flatMap fun p => [p.1, p.2]) ds) P2).imp fun ps H3 ⟨A3, s3, ds, nx3, rs3, r3, P3⟩ => ?_⟩
    exact P3 _ _ _ (Nx.refl _ _) rs3 (RVs.cons (r.mono (nx.trans nx3)) (RVs.cons (r2.mono nx3) r3))
theorem se_dic0 : PE X (.Dict [] [] pos) (tE X.K sd W (ev B (.dic .nil))) :=
  pe_dnewK.weak fun σ H Q ⟨A, st, ρ, hs, rs, rl, P⟩ p hp => by
    rw [ev] at P
    have nx : Nx A (A ++ [p]) H (upd H p (.dK [])) := Nx.new hp
    have e : bnd (newO (.dct [])) (fun d => bnd (evs B .nil ρ) fun ds => dicK d ds) st = .ok (.ref st.length) (st ++ [.odc]) := by
      unfold bnd newO
      dsimp only
      rw [evs]
      simp [ret, dicK, keysOk]
    rw [e] at P
    exact P (.ref p) _ (A ++ [p]) nx (rs.new hp rfl ⟨_, upd_same⟩) (RV.ref (at_last rs p))
theorem se_dic {es : Es} {ks : List (Option Expr)} {ws : List Expr} (h : DicP X B W sd pos es ks ws) (h0 : ks ≠ []) (h15 : ks.length ≤ 15) :
    PE X (.Dict ks ws pos) (tE X.K sd W (ev B (.dic es))) := by
  obtain ⟨trs, pp, a1, a2, a4, a3⟩ := h
  refine (pe_disp pp a1 a2 h0 h15).weak fun σ H Q ⟨A, st, ρ, hs, rs, rl, P⟩ p hp => ?_
  rw [ev] at P
  have nx : Nx A (A ++ [p]) H (upd H p (.dK [])) := Nx.new hp
  have rs0 : RS X.K (A ++ [p]) (upd H p (.dK [])) (st ++ [.dct []]) := rs.new hp rfl ⟨rfl, upd_same⟩
  have P0 : Post X.K (RV X.K) (A ++ [p]) (upd H p (.dK [])) (fun c d H' => W c d σ H') Q (bnd (evs B es ρ) (fun ds => dicK (.ref st.length) ds) (st ++ [.dct []])) := Post.re P nx
  refine a3 σ _ _ ⟨A ++ [p], _, ρ, hs, rs0, rl.mono nx, (Post.bndE (R1 := fun A H (vs : List (V × V)) ds => RVs X.K A H (vs.flatMap fun p => [p.1, p.2]) ds) P0).imp fun ps H1 ⟨A1, s1, ds, nx1, rs1, r1, el, P1⟩ => ?_⟩
  have ha : A1[st.length]? = some p := nx1.at_ (at_last rs p)
  have P1' : Post X.K (RV X.K) A1 H1 (fun c d H' => W c d σ H') Q (match s1[st.length]? with
    | some (.dct []) => if keysOk ds = true then .ok (.ref st.length) (s1.set st.length .odc) else .bad
    | _ => .bad) := P1
  cases q : s1[st.length]? with
  | none => rw [q] at P1'; exact P1'.elim
  | some o =>
    rw [q] at P1'
    cases o with
    | dct l =>
      cases l with
      | cons _ _ => exact P1'.elim
      | nil =>
        dsimp only at P1'
        by_cases c : keysOk ds = true
        · rw [if_pos c] at P1'
          obtain ⟨_, h1⟩ := rs1.at_ _ _ _ ha q
          obtain ⟨kvs, ek⟩ := vals_dic (X := X) c r1 rfl
          refine ⟨h1, kvs, ek, ?_, ?_⟩
          · have l1 : ps.length = ks.length := by
              have e1 := evs_len el
              have e2 := r1.length
              have e4 := pairs_len ps
              omega
            have l2 : ps.length = kvs.length := by rw [ek, List.length_map]
            omega
          · have kp := Kp.dk (ls := mergeK [] kvs) h1
            exact P1' (.ref p) _ A1 (Nx.heap kp) (rs1.seto ha q h1 rfl rfl kp ⟨_, upd_same⟩) (RV.ref ha)
        · rw [if_neg c] at P1'
          exact P1'.elim
    | _ => exact P1'.elim
end
/-! ### the checker -/
inductive Md where
  | cold | hot (e : Option (Str × Nat))
structure Ck where
  N : List Str
  sc : Scope
  calls : List (Str × Nat)
  callks : List (Str × Nat × List Str)
  bis : List Bi
  isi : Bool
  exis : List Str
  raises : List Str
  rng : Bool
  md : Md
def visB (sc : Scope) (x : Str) : Bool := match sc.names.lookup x with
  | some .local => true
  | some .cell => true
  | some .free => true
  | _ => false
def locB (sc : Scope) (x : Str) : Bool := match sc.names.lookup x with
  | some .local => true
  | some .cell => true
  | _ => false
def glB (sc : Scope) (x : Str) : Bool := match sc.names.lookup x with
  | some .globalImplicit => true
  | _ => false
def okNm (x : Str) : Bool := !(x == ("__debug__" : Str)) && (!(x == ("__classdict__" : Str)) && !(x == ("__name__" : Str)))
def coldB : Md → Bool
  | .cold => true
  | _ => false
def plainIxB : Expr → Bool
  | .Slice .. => false
  | _ => true
def notSet : Expr → Bool
  | .Set .. => false
  | _ => true
def lclB (sc : Scope) (x : Str) : Bool := match sc.names.lookup x with
  | some .local => true
  | _ => false
/-- not the slot of the exception that is handled -/
def slotOk : Md → Nat → Bool
  | .hot (some (_, i)), j => decide (j ≠ i)
  | _, _ => true
/-- no IfExp where a test stands -/
def tok : E → Bool
  | .and a b => tok a && tok b
  | .or a b => tok a && tok b
  | .not a => tok a
  | .ite .. => false
  | _ => true
def keyBase : Expr → Bool
  | .Call .. => false
  | _ => true
mutual
def ckE (c : Ck) : E → Expr → Bool
  | .c .non, .Constant .none _ _ => true
  | .c (.bl b), .Constant (.bool b') _ _ => b == b'
  | .c (.int i), .Constant (.int j) _ _ => i == j
  | .c (.str x), .Constant (.str y) _ _ => decide (x = y)
  | .var i, .Name x _ => visB c.sc x && decide (c.N[i]? = some x) && okNm x
  | .glob x, .Name y _ => false
  | .tup es, .Tuple l _ _ => ckEs c es l
  | .lst es, .List l _ => ckEs c es l
  | .dic es, .Dict ks ws _ => (match es with
    | .nil => ks.isEmpty && ws.isEmpty
    | _ => !ks.isEmpty && decide (ks.length ≤ 15) && ckP c es ks ws)
  | .bin op a b, .BinOp x op' y _ => decide (op = op') && ckE c a x && ckE c b y
  | .neg a, .UnaryOp .USub x _ => ckE c a x
  | .cmp op a b, .Compare x [op'] [y] _ => decide (op = op') && notSet y && ckE c a x && ckE c b y
  | .and a b, .BoolOp .And (x :: y :: rest) pos => ckE c a x && (match rest with
    | [] => ckE c b y
    | _ => ckE c b (.BoolOp .And (y :: rest) pos))
  | .or a b, .BoolOp .Or (x :: y :: rest) pos => ckE c a x && (match rest with
    | [] => ckE c b y
    | _ => ckE c b (.BoolOp .Or (y :: rest) pos))
  | .not a, .UnaryOp .Not x _ => ckE c a x
  | .ite k a b, .IfExp z x y _ => tok k && ckE c k z && ckE c a x && ckE c b y
  | .ix a b, .Subscript x y _ => plainIxB y && ckE c a x && ckE c b y
  | .call f es, .Call (.Name x _) l [] _ => coldB c.md && decide (f = x) && glB c.sc x && okNm x && l.all notStar && decide ((x, es.len) ∈ c.calls) && ckEs c es l
  | .callk f es ks kes, .Call (.Name x _) l kws _ => coldB c.md && decide (f = x) && glB c.sc x && okNm x && l.all notStar && !l.isEmpty && decide (kwNames kws = ks.map some) && decide (kes.len = ks.length) && decide ((x, es.len, ks) ∈ c.callks) && ckEs c es l && ckK c kes kws
  | .bi f es, .Call (.Name x _) l [] _ => decide (f.nm = x) && glB c.sc x && l.all notStar && !l.isEmpty && decide (f ∈ c.bis) && ckEs c es l
  | .isi a t, .Call (.Name x _) [y, .Name z _] [] _ => c.isi && decide (x = "isinstance") && decide (z = t.snm) && glB c.sc x && glB c.sc z && notStar y && ckE c a y
  | .meth a .append (.cons b .nil), .Call (.Attribute x m ap) [y] [] pos => decide (m = "append") && (ap.endLine == pos.line) && keyBase x && notStar y && ckE c a x && ckE c b y
  | .exis t, .Call (.Name x _) [.Name n _, .Name z _] [] _ => (match c.md with
    | .hot (some (e, i)) => c.isi && decide (x = "isinstance") && decide (n = e) && decide (z = t) && visB c.sc n && decide (c.N[i]? = some n) && okNm n && glB c.sc x && glB c.sc z && okNm z && decide (t ∈ c.exis)
    | _ => false)
  | _, _ => false
def ckEs (c : Ck) : Es → List Expr → Bool
  | .nil, [] => true
  | .cons e es, x :: l => notStar x && ckE c e x && ckEs c es l
  | _, _ => false
def ckK (c : Ck) : Es → List Keyword → Bool
  | .nil, [] => true
  | .cons e es, ⟨_, x, _⟩ :: l => ckE c e x && ckK c es l
  | _, _ => false
def ckP (c : Ck) : Es → List (Option Expr) → List Expr → Bool
  | .nil, [], [] => true
  | .cons k (.cons v es), some ek :: ks, w :: ws => ckE c k ek && ckE c v w && ckP c es ks ws
  | _, _, _ => false
end
end RI
set_option maxRecDepth 100000
set_option maxHeartbeats 4000000
/-! RH: what the checker of expressions lets through keeps what the machine does. -/
namespace RI
open PySem L2 PyProof.Rows
variable [Xs]
/-- a class whose instances the program raises, made without arguments -/
structure ExAt (X : Cx) (y : Str) : Prop where
  gl : X.mg y = some (.ref (He.ga X.K y))
  ex : PySem.W.excIn X.K (He.ga X.K y) He.veBase "ValueError.__new__" = true
  kp : PySem.W.keepIn X.K (.ref (He.ga X.K y)) = true
  rs : Raises X (.ref (He.ga X.K y))
/-- a class by its name: which of the program's exceptions are its instances -/
def ClsAt (X : Cx) (t : Str) : Prop := ∃ (u : Value) (v : V), ClsV v u ∧ RelV v u ∧ (X.mg t = some u ∨ (X.mg t = none ∧ bootBuiltins t = some u ∧ t ≠ "__name__")) ∧
  ∀ y ∈ Xs.names, PySem.W.kitOne X.K (.ref (He.ga X.K y)) u = some (Xs.sub y t) ∧ PySem.W.exmOne X.K (.ref (He.ga X.K y)) u = some (Xs.sub y t)
structure Cok (X : Cx) (c : Ck) (B : Tb) (W : WX) (sd : L2.St → Prop) : Prop where
  hN : X.N = c.N
  nd : c.N.Nodup
  vis : ∀ x, visB c.sc x = true → Vis X.env.scope x
  loc : ∀ x, locB c.sc x = true → Loc X.env.scope x ∧ (X.fn x = true ∨ X.env.scope.names.lookup x = some .local)
  gl : ∀ x, glB c.sc x = true → Gl X x
  hu : X.A.units + 64 < cLine
  calm : coldB c.md = true → X.calm = true
  takes : coldB c.md = true → Takes X W
  call : coldB c.md = true → ∀ x n, (x, n) ∈ c.calls → FnAt X.prog X.w X.K X.mg X.base X.A (B.call x) x n
  callk : coldB c.md = true → ∀ x n ks, (x, n, ks) ∈ c.callks → FnAtK X.prog X.w X.K X.mg X.base X.A (B.callk x ks) x n ks
  bis : ∀ f ∈ c.bis, BiAt X f
  isi : c.isi = true → X.mg "isinstance" = none ∧ ∀ t : Ty, X.mg t.snm = none
  sub : B.sub = Xs.sub
  set : ∀ j, slotOk c.md j = true → ∀ (σ : L2.St) (v : Option V), sd σ → sd (σ.set j v)
  len : ∀ σ : L2.St, sd σ → σ.length = c.N.length
  lcl : ∀ x, lclB c.sc x = true → X.env.kindOf x = some .local
  passes : coldB c.md = true → PassesOwn (model X.prog X.w) X.A X.env X.xe
  stk : coldB c.md = true → X.stack = X.env :: X.outer ∧ X.env.frame = some X.env.locals
  raises : ∀ y ∈ c.raises, ExAt X y ∧ y ∈ Xs.names
  rng : c.rng = true → X.mg "range" = none
  cls : ∀ t ∈ c.exis, ClsAt X t
  exc : ∀ y ∈ Xs.names, ExcC X.K (He.ga X.K y)
  hot : ∀ e i, c.md = .hot (some (e, i)) → ∃ x, B.exn = some x ∧ ∀ t ∈ c.exis, x.fs = [] → ExIs X sd i t (B.sub x.cls t)
def isBoolE : Expr → Bool
  | .BoolOp .. => true
  | _ => false
structure Snd (X : Cx) (B : Tb) (W : WX) (sd : L2.St → Prop) (ir : E) (e : Expr) : Prop where
  pe : PE X e (tE X.K sd W (ev B ir))
  pt : tok ir = true → PT X e (tT X.K sd W fun ρ => truM (ev B ir ρ))
  pw : tok ir = true → isBoolE e = true → PW X e (tT X.K sd W fun ρ => truM (ev B ir ρ))
theorem okNm_of {x : Str} (h : okNm x = true) : (x == ("__debug__" : Str)) = false ∧ (x == ("__classdict__" : Str)) = false ∧ x ≠ "__name__" := by
  unfold okNm at h
  simp only [Bool.and_eq_true, Bool.not_eq_true'] at h
  exact ⟨h.1, h.2.1, beq_eq_false_iff_ne.mp h.2.2⟩
theorem notSet_in {e : Expr} {op : CmpOp} (h : notSet e = true) : behindInMarks op e = false := by
  cases e <;> first | rfl | cases h
theorem plainIx_of {e : Expr} (h : plainIxB e = true) : PlainIx e := by
  cases e <;> first | (intro o i; rfl) | cases h
theorem base_of {X : Cx} {e : Expr} {m : Str} (h : keyBase e = true) : attributeBase e m X.env (eval e X.env) = eval e X.env := by
  cases e <;> first | rfl | cases h
section
variable {X : Cx} {c : Ck} {sd : L2.St → Prop} {W : WX} {B : Tb}
/-- an expression whose test is its value's truth -/
theorem Snd.of {ir : E} {e : Expr} (h : PE X e (tE X.K sd W (ev B ir))) (he : ∀ whole, isTrue e X.env whole = (do let v ← whole; standAt e.pos; holding [v] (truthy v))) (nb : isBoolE e = false) : Snd X B W sd ir e :=
  ⟨h, fun _ => st_val h he, fun _ q => by rw [nb] at q; cases q⟩
theorem and3 {a b : Bool} (h : (a && b) = true) : a = true ∧ b = true := Bool.and_eq_true_iff.mp h
theorem snd_and {a b : E} {x y : Expr} {rest : List Expr} {pos : Pos} (ha : Snd X B W sd a x) (hb : match rest with
    | [] => Snd X B W sd b y
    | _ => Snd X B W sd b (.BoolOp .And (y :: rest) pos)) : Snd X B W sd (.and a b) (.BoolOp .And (x :: y :: rest) pos) := by
  have pw : tok (.and a b) = true → PW X (.BoolOp .And (x :: y :: rest) pos) (tT X.K sd W fun ρ => truM (ev B (.and a b) ρ)) := fun t => by
    obtain ⟨t1, t2⟩ := and3 (show (tok a && tok b) = true from t)
    refine st_and (ha.pt t1) ?_
    cases rest with
    | nil => exact pw_and1 (hb.pt t2)
    | cons z r => exact hb.pw t2 rfl
  refine ⟨?_, fun t => (pw t).pt, fun t _ => pw t⟩
  refine se_andV ha.pe ?_
  cases rest with
  | nil => exact se_one hb.pe
  | cons z r => exact hb.pe
theorem snd_or {a b : E} {x y : Expr} {rest : List Expr} {pos : Pos} (ha : Snd X B W sd a x) (hb : match rest with
    | [] => Snd X B W sd b y
    | _ => Snd X B W sd b (.BoolOp .Or (y :: rest) pos)) : Snd X B W sd (.or a b) (.BoolOp .Or (x :: y :: rest) pos) := by
  have pw : tok (.or a b) = true → PW X (.BoolOp .Or (x :: y :: rest) pos) (tT X.K sd W fun ρ => truM (ev B (.or a b) ρ)) := fun t => by
    obtain ⟨t1, t2⟩ := and3 (show (tok a && tok b) = true from t)
    refine st_or (ha.pt t1) ?_
    cases rest with
    | nil => exact pw_or1 (hb.pt t2)
    | cons z r => exact hb.pw t2 rfl
  refine ⟨?_, fun t => (pw t).pt, fun t _ => pw t⟩
  refine se_orV ha.pe ?_
  cases rest with
  | nil => exact se_one hb.pe
  | cons z r => exact hb.pe
variable (C : Cok X c B W sd)
include C
theorem sndVar {i : Nat} {x : Str} {pos : Pos} (h1 : visB c.sc x = true) (h2 : c.N[i]? = some x) (h3 : okNm x = true) : PE X (.Name x pos) (tVar i) :=
  pe_var (by rw [C.hN]; exact h2) (C.vis x h1) (okNm_of h3).1 (okNm_of h3).2.1
mutual
theorem sndE : ∀ (ir : E) (e : Expr), ckE c ir e = true → Snd X B W sd ir e
  | .c d, e, h => by
    cases d <;> cases e <;> first
      | (simp [ckE] at h; done)
      | (rename_i k _ _; cases k <;> first
          | exact .of (se_c pe_non fun _ _ => .non) (fun _ => rfl) rfl
          | (simp only [ckE, beq_iff_eq] at h; subst h; exact .of (se_c pe_bl fun _ _ => .bl _) (fun _ => rfl) rfl)
          | (simp only [ckE, beq_iff_eq] at h; subst h; exact .of (se_c pe_int fun _ _ => .int _) (fun _ => rfl) rfl)
          | (simp only [ckE, decide_eq_true_eq] at h; subst h; exact .of (se_c pe_str fun _ _ => .str _) (fun _ => rfl) rfl)
          | (simp [ckE] at h; done))
  | .var i, e, h => by
    cases e <;> first
      | (simp [ckE] at h; done)
      | (rw [ckE] at h
         obtain ⟨h1, h3⟩ := and3 h
         obtain ⟨h1, h2⟩ := and3 h1
         exact .of (se_var (sndVar C h1 (of_decide_eq_true h2) h3)) (fun _ => rfl) rfl)
  | .glob x, e, h => by cases e <;> simp [ckE] at h
  | .tup es, e, h => by
    cases e <;> first
      | (simp [ckE] at h; done)
      | (rw [ckE] at h
         exact .of (se_tup (sndEs es _ h)) (fun _ => rfl) rfl)
  | .lst es, e, h => by
    cases e <;> first
      | (simp [ckE] at h; done)
      | (rw [ckE] at h
         exact .of (se_lst (sndEs es _ h)) (fun _ => rfl) rfl)
  | .dic es, e, h => by
    cases e <;> first
      | (simp [ckE] at h; done)
      | (rename_i ks ws pos
         cases es with
         | nil =>
           rw [ckE] at h
           obtain ⟨h1, h2⟩ := and3 h
           have e1 : ks = [] := by simpa using h1
           have e2 : ws = [] := by simpa using h2
           subst e1 e2
           exact .of se_dic0 (fun _ => rfl) rfl
         | cons a es =>
           have h : (!ks.isEmpty && decide (ks.length ≤ 15) && ckP c (.cons a es) ks ws) = true := by
             rw [ckE] at h
             exact h
             intro z
             cases z
           obtain ⟨h1, h3⟩ := and3 h
           obtain ⟨h1, h2⟩ := and3 h1
           have n0 : ks ≠ [] := by
             intro z
             subst z
             cases h1
           exact .of (se_dic (sndP (.cons a es) ks ws pos h3) n0 (of_decide_eq_true h2)) (fun _ => rfl) rfl)
  | .bin op a b, e, h => by
    cases e <;> first
      | (simp [ckE] at h; done)
      | (rw [ckE] at h
         obtain ⟨h1, h3⟩ := and3 h
         obtain ⟨h1, h2⟩ := and3 h1
         have e1 := of_decide_eq_true h1
         subst e1
         exact .of (se_bin (sndE a _ h2).pe (sndE b _ h3).pe) (fun _ => rfl) rfl)
  | .neg a, e, h => by
    cases e <;> first
      | (simp [ckE] at h; done)
      | (rename_i op x pos
         cases op <;> first
           | (simp [ckE] at h; done)
           | (rw [ckE] at h
              exact .of (se_neg (sndE a _ h).pe) (fun _ => rfl) rfl))
  | .cmp op a b, e, h => by
    cases e <;> first
      | (simp [ckE] at h; done)
      | (rename_i x ops ys pos
         match ops, ys, h with
         | [op'], [y], h =>
           rw [ckE] at h
           obtain ⟨h1, h4⟩ := and3 h
           obtain ⟨h1, h3⟩ := and3 h1
           obtain ⟨h1, h2⟩ := and3 h1
           have e1 := of_decide_eq_true h1
           subst e1
           exact ⟨se_cmp C.hu (notSet_in h2) (sndE a _ h3).pe (sndE b _ h4).pe, fun _ => st_cmp C.hu (notSet_in h2) (sndE a _ h3).pe (sndE b _ h4).pe, fun _ q => by cases q⟩
         | [], _, h => simp [ckE] at h
         | _ :: _ :: _, _, h => simp [ckE] at h
         | [_], [], h => simp [ckE] at h
         | [_], _ :: _ :: _, h => simp [ckE] at h)
  | .chn .., e, h => by cases e <;> simp [ckE] at h
  | .and a b, e, h => by
    cases e <;> first
      | (simp [ckE] at h; done)
      | (rename_i op vs pos
         match op, vs, h with
         | .And, [x, y], h =>
           rw [ckE] at h
           obtain ⟨h1, h2⟩ := and3 h
           exact snd_and (rest := []) (sndE a _ h1) (sndE b _ h2)
         | .And, x :: y :: z :: r, h =>
           have h : (ckE c a x && ckE c b (.BoolOp .And (y :: z :: r) pos)) = true := by
             rw [ckE] at h
             exact h
             intro q
             cases q
           obtain ⟨h1, h2⟩ := and3 h
           exact snd_and (rest := z :: r) (sndE a _ h1) (sndE b _ h2)
         | .And, [], h => simp [ckE] at h
         | .And, [_], h => simp [ckE] at h
         | .Or, _, h => simp [ckE] at h)
  | .or a b, e, h => by
    cases e <;> first
      | (simp [ckE] at h; done)
      | (rename_i op vs pos
         match op, vs, h with
         | .Or, [x, y], h =>
           rw [ckE] at h
           obtain ⟨h1, h2⟩ := and3 h
           exact snd_or (rest := []) (sndE a _ h1) (sndE b _ h2)
         | .Or, x :: y :: z :: r, h =>
           have h : (ckE c a x && ckE c b (.BoolOp .Or (y :: z :: r) pos)) = true := by
             rw [ckE] at h
             exact h
             intro q
             cases q
           obtain ⟨h1, h2⟩ := and3 h
           exact snd_or (rest := z :: r) (sndE a _ h1) (sndE b _ h2)
         | .Or, [], h => simp [ckE] at h
         | .Or, [_], h => simp [ckE] at h
         | .And, _, h => simp [ckE] at h)
  | .not a, e, h => by
    cases e <;> first
      | (simp [ckE] at h; done)
      | (rename_i op x pos
         cases op <;> first
           | (simp [ckE] at h; done)
           | (rw [ckE] at h
              exact ⟨se_not (sndE a _ h).pe, fun t => st_not ((sndE a _ h).pt t), fun _ q => by cases q⟩))
  | .ite k a b, e, h => by
    cases e <;> first
      | (simp [ckE] at h; done)
      | (rw [ckE] at h
         obtain ⟨h1, h4⟩ := and3 h
         obtain ⟨h1, h3⟩ := and3 h1
         obtain ⟨h1, h2⟩ := and3 h1
         exact ⟨se_ite ((sndE k _ h2).pt h1) (sndE a _ h3).pe (sndE b _ h4).pe, fun t => (by cases t), fun t _ => (by cases t)⟩)
  | .ix a b, e, h => by
    cases e <;> first
      | (simp [ckE] at h; done)
      | (rw [ckE] at h
         obtain ⟨h1, h3⟩ := and3 h
         obtain ⟨h1, h2⟩ := and3 h1
         exact .of (se_ix (plainIx_of h1) (sndE a _ h2).pe (sndE b _ h3).pe) (fun _ => rfl) rfl)
  | .sl .., e, h => by cases e <;> simp [ckE] at h
  | .call f es, e, h => by
    cases e <;> first
      | (simp [ckE] at h; done)
      | (rename_i fn l kws pos
         cases fn <;> first
           | (simp [ckE] at h; done)
           | (cases kws with
              | cons _ _ => simp [ckE] at h
              | nil =>
                rename_i x p
                rw [ckE] at h
                obtain ⟨h, h7⟩ := and3 h
                obtain ⟨h, h6⟩ := and3 h
                obtain ⟨h, h5⟩ := and3 h
                obtain ⟨h, h4⟩ := and3 h
                obtain ⟨h, h3⟩ := and3 h
                obtain ⟨h1, h2⟩ := and3 h
                have e1 := of_decide_eq_true h2
                subst e1
                have oc := (C.call h1 _ _ (of_decide_eq_true h6)).own (C.takes h1)
                cases l with
                | nil =>
                  cases es with
                  | nil => exact .of (se_call0 oc (C.gl _ h3) (okNm_of h4).1) (fun _ => rfl) rfl
                  | cons _ _ => simp [ckEs] at h7
                | cons y l => exact .of (se_call oc (C.gl _ h3) (okNm_of h4).1 h5 (sndEs es _ h7)) (fun _ => rfl) rfl))
  | .callk f es ks kes, e, h => by
    cases e <;> first
      | (simp [ckE] at h; done)
      | (rename_i fn l kws pos
         cases fn <;> first
           | (simp [ckE] at h; done)
           | (rename_i x p
              rw [ckE] at h
              obtain ⟨h, h11⟩ := and3 h
              obtain ⟨h, h10⟩ := and3 h
              obtain ⟨h, h9⟩ := and3 h
              obtain ⟨h, h8⟩ := and3 h
              obtain ⟨h, h7⟩ := and3 h
              obtain ⟨h, h6⟩ := and3 h
              obtain ⟨h, h5⟩ := and3 h
              obtain ⟨h, h4⟩ := and3 h
              obtain ⟨h, h3⟩ := and3 h
              obtain ⟨h1, h2⟩ := and3 h
              have e1 := of_decide_eq_true h2
              subst e1
              have oc := (C.callk h1 _ _ _ (of_decide_eq_true h9)).own (C.takes h1)
              cases l with
              | nil => cases h6
              | cons y l => exact .of (se_callk oc (of_decide_eq_true h7) (of_decide_eq_true h8) (C.gl _ h3) (okNm_of h4).1 h5 (sndEs es _ h10) (sndK kes _ h11)) (fun _ => rfl) rfl))
  | .bi f es, e, h => by
    cases e <;> first
      | (simp [ckE] at h; done)
      | (rename_i fn l kws pos
         cases fn <;> first
           | (simp [ckE] at h; done)
           | (cases kws with
              | cons _ _ => simp [ckE] at h
              | nil =>
                rename_i x p
                rw [ckE] at h
                obtain ⟨h, h6⟩ := and3 h
                obtain ⟨h, h5⟩ := and3 h
                obtain ⟨h, h4⟩ := and3 h
                obtain ⟨h, h3⟩ := and3 h
                obtain ⟨h1, h2⟩ := and3 h
                have e1 := of_decide_eq_true h1
                subst e1
                cases l with
                | nil => cases h4
                | cons y l => exact .of (se_bi (C.bis f (of_decide_eq_true h5)) (C.gl _ h2) h3 (sndEs es _ h6)) (fun _ => rfl) rfl))
  | .meth a m .nil, e, h => by
    cases m
    cases e <;> simp [ckE] at h
  | .meth a m (.cons _ (.cons _ _)), e, h => by
    cases m
    cases e <;> simp [ckE] at h
  | .meth a m (.cons b .nil), e, h => by
    cases m
    cases e <;> first
        | (simp [ckE] at h; done)
        | (rename_i fn l kws pos
           cases fn <;> first
             | (simp [ckE] at h; done)
             | (rename_i x mn ap
                match l, kws, h with
                | [y], [], h =>
                  rw [ckE] at h
                  obtain ⟨h, h6⟩ := and3 h
                  obtain ⟨h, h5⟩ := and3 h
                  obtain ⟨h, h4⟩ := and3 h
                  obtain ⟨h, h3⟩ := and3 h
                  obtain ⟨h1, h2⟩ := and3 h
                  have e1 := of_decide_eq_true h1
                  subst e1
                  exact .of (se_app (base_of h3) h2 h4 (sndE a _ h5).pe (sndE b _ h6).pe) (fun _ => rfl) rfl
                | [], _, h => simp [ckE] at h
                | _ :: _ :: _, _, h => simp [ckE] at h
                | [_], _ :: _, h => simp [ckE] at h))
  | .isi a t, e, h => by
    cases e <;> first
      | (simp [ckE] at h; done)
      | (rename_i fn l kws pos
         cases fn <;> first
           | (simp [ckE] at h; done)
           | (rename_i x p
              match l, kws, h with
              | [y, z], [], h =>
                cases z <;> first
                  | (simp [ckE] at h; done)
                  | (rename_i z p2
                     rw [ckE] at h
                     obtain ⟨h, h7⟩ := and3 h
                     obtain ⟨h, h6⟩ := and3 h
                     obtain ⟨h, h5⟩ := and3 h
                     obtain ⟨h, h4⟩ := and3 h
                     obtain ⟨h, h3⟩ := and3 h
                     obtain ⟨h1, h2⟩ := and3 h
                     have e1 := of_decide_eq_true h2
                     have e2 := of_decide_eq_true h3
                     subst e1 e2
                     obtain ⟨m1, m2⟩ := C.isi h1
                     exact .of (se_isi m1 (C.gl _ h4) (m2 t) (C.gl _ h5) h6 (sndE a _ h7).pe) (fun _ => rfl) rfl)
              | [y, z], _ :: _, h => cases z <;> (simp [ckE] at h)
              | [], _, h => simp [ckE] at h
              | [_], _, h => simp [ckE] at h
              | _ :: _ :: _ :: _, _, h => simp [ckE] at h))
  | .lc .., e, h => by cases e <;> simp [ckE] at h
  | .exis t, e, h => by
    cases e <;> first
      | (simp [ckE] at h; done)
      | (rename_i fn l kws pos
         cases fn <;> first
           | (simp [ckE] at h; done)
           | (rename_i x p
              match l, kws, h with
              | [y, z], [], h =>
                cases y <;> first
                  | (simp [ckE] at h; done)
                  | (cases z <;> first
                      | (simp [ckE] at h; done)
                      | (rename_i n p1 z p2
                         rw [ckE] at h
                         split at h
                         · rename_i e i em
                           obtain ⟨h, h11⟩ := and3 h
                           obtain ⟨h, h10⟩ := and3 h
                           obtain ⟨h, h9⟩ := and3 h
                           obtain ⟨h, h8⟩ := and3 h
                           obtain ⟨h, h7⟩ := and3 h
                           obtain ⟨h, h6⟩ := and3 h
                           obtain ⟨h, h5⟩ := and3 h
                           obtain ⟨h, h4⟩ := and3 h
                           obtain ⟨h, h3⟩ := and3 h
                           obtain ⟨h1, h2⟩ := and3 h
                           have e1 := of_decide_eq_true h2
                           have e2 := of_decide_eq_true h3
                           have e3 := of_decide_eq_true h4
                           subst e1 e2 e3
                           obtain ⟨x, hx, hq⟩ := C.hot _ _ em
                           exact .of (se_exis hx (hq _ (of_decide_eq_true h11)) (C.isi h1).1 (C.gl _ h8) (sndVar C h5 (of_decide_eq_true h6) h7) (C.gl _ h9) (okNm_of h10).1) (fun _ => rfl) rfl
                         · cases h))
              | [_, _], _ :: _, h => simp [ckE] at h
              | [], _, h => simp [ckE] at h
              | [_], _, h => simp [ckE] at h
              | _ :: _ :: _ :: _, _, h => simp [ckE] at h))
  | .exfld f, e, h => by cases e <;> simp [ckE] at h
theorem sndEs : ∀ (es : Es) (l : List Expr), ckEs c es l = true → PA X l (tEs X.K sd W (evs B es))
  | .nil, l, h => by
    cases l with
    | nil => exact sa_nil
    | cons _ _ => simp [ckEs] at h
  | .cons e es, l, h => by
    cases l with
    | nil => simp [ckEs] at h
    | cons x l =>
      rw [ckEs] at h
      obtain ⟨h, h3⟩ := and3 h
      obtain ⟨h1, h2⟩ := and3 h
      exact sa_cons h1 (sndE e _ h2).pe (sndEs es _ h3)
theorem sndK : ∀ (es : Es) (l : List Keyword), ckK c es l = true → PK X l (tEs X.K sd W (evs B es))
  | .nil, l, h => by
    cases l with
    | nil => exact sk_nil
    | cons _ _ => simp [ckK] at h
  | .cons e es, l, h => by
    cases l with
    | nil => simp [ckK] at h
    | cons x l =>
      obtain ⟨n, x, p⟩ := x
      rw [ckK] at h
      obtain ⟨h1, h2⟩ := and3 h
      exact sk_cons (sndE e _ h1).pe (sndK es _ h2)
theorem sndP : ∀ (es : Es) (ks : List (Option Expr)) (ws : List Expr) (pos : Pos), ckP c es ks ws = true → DicP X B W sd pos es ks ws
  | .nil, ks, ws, pos, h => by
    match ks, ws, h with
    | [], [], h => exact dicP_nil
    | [], _ :: _, h => simp [ckP] at h
    | _ :: _, _, h => simp [ckP] at h
  | .cons k .nil, ks, ws, pos, h => by simp [ckP] at h
  | .cons k (.cons v es), ks, ws, pos, h => by
    match ks, ws, h with
    | some ek :: ks, w :: ws, h =>
      rw [ckP] at h
      obtain ⟨h, h3⟩ := and3 h
      obtain ⟨h1, h2⟩ := and3 h
      exact dicP_cons (sndE k _ h1).pe (sndE v _ h2).pe (sndP es ks ws pos h3)
    | [], _, h => simp [ckP] at h
    | none :: _, _, h => simp [ckP] at h
    | some _ :: _, [], h => simp [ckP] at h
end
end
end RI
set_option maxRecDepth 100000
set_option maxHeartbeats 4000000
/-! RJ: statements keep what the machine does: one lemma a construct. -/
namespace L2
open PySem PyProof.Rows
theorem PS.weak {X : Cx} {s : Stmt} {t t' : TS} (h : PS X s t) (w : ∀ D σ H, t' D σ H → t D σ H) : PS X s t' := ⟨fun pins s σ H D I q => h.run pins s σ H D I (w D σ H q)⟩
theorem PSs.weak {X : Cx} {s : List Stmt} {t t' : TS} (h : PSs X s t) (w : ∀ D σ H, t' D σ H → t D σ H) : PSs X s t' := ⟨fun pins s σ H D I q => h.run pins s σ H D I (w D σ H q)⟩
theorem PI.weak {X : Cx} {tg e : Expr} {t t' : TI} (h : PI X tg e t) (w : ∀ σ H R, t' σ H R → t σ H R) : PI X tg e t' := ⟨fun pins s σ H R I q => h.run pins s σ H R I (w σ H R q)⟩
end L2
namespace RI
open PySem L2 PyProof.Rows
variable [Xs]
section
variable {K : PySem.W.Frag} {A A' : List Addr} {H H' : Hp} {sd : L2.St → Prop} {W : WX}
/-- what is wanted behind a statement -/
def PostS (K : PySem.W.Frag) (sd : L2.St → Prop) (W : WX) (D : Ends) (A : List Addr) (H : Hp) : Fl → Prop
  | .nx ρ s => ∀ σ' H' A', Nx A A' H H' → sd σ' → RS K A' H' s → RSl K A' H' σ' ρ → D.nx σ' H'
  | .rt d s => ∀ v H' A', Nx A A' H H' → RS K A' H' s → RV K A' H' v d → D.rt v H'
  | .bk ρ s => ∀ σ' H' A', Nx A A' H H' → sd σ' → RS K A' H' s → RSl K A' H' σ' ρ → D.bk σ' H'
  | .ct ρ s => ∀ σ' H' A', Nx A A' H H' → sd σ' → RS K A' H' s → RSl K A' H' σ' ρ → D.ct σ' H'
  | .ex x ρ s => ∀ σ' H' A' c dd, Nx A A' H H' → sd σ' → RS K A' H' s → RSl K A' H' σ' ρ → RX K A' H' x c dd → W c dd σ' H'
  | .bad => False
theorem PostS.re {D : Ends} {r : Fl} (h : PostS K sd W D A H r) (x : Nx A A' H H') : PostS K sd W D A' H' r := by
  cases r with
  | nx ρ s => exact fun σ' H2 A2 y => h σ' H2 A2 (x.trans y)
  | rt d s => exact fun σ' H2 A2 y => h σ' H2 A2 (x.trans y)
  | bk ρ s => exact fun σ' H2 A2 y => h σ' H2 A2 (x.trans y)
  | ct ρ s => exact fun σ' H2 A2 y => h σ' H2 A2 (x.trans y)
  | ex e ρ s => exact fun σ' H2 A2 c dd y => h σ' H2 A2 c dd (x.trans y)
  | bad => exact h
/-- the reading of a statement -/
def tSt (K : PySem.W.Frag) (sd : L2.St → Prop) (W : WX) (m : Env → Store → Fl) : TS := fun D σ H =>
  ∃ A st ρ, sd σ ∧ RS K A H st ∧ RSl K A H σ ρ ∧ PostS K sd W D A H (m ρ st)
theorem tSt.to {m m' : Env → Store → Fl} {D : Ends} {σ : L2.St} (h : tSt K sd W m D σ H) (e : ∀ ρ s, m ρ s = m' ρ s) : tSt K sd W m' D σ H := by
  obtain ⟨A, st, ρ, hs, rs, rl, P⟩ := h
  exact ⟨A, st, ρ, hs, rs, rl, by rw [← e]; exact P⟩
/-- an expression, then what it is for -/
theorem tSt.fin {α β : Type} {R : List Addr → Hp → β → α → Prop} {m : Env → M α} {k : α → Env → Store → Fl} {D : Ends} {σ : L2.St} (h : tSt K sd W (fun ρ s => fin ρ (m ρ s) fun d s1 => k d ρ s1) D σ H) :
    tR K sd W R m σ H fun v H1 => ∃ A1 s1 d ρ, sd σ ∧ RS K A1 H1 s1 ∧ RSl K A1 H1 σ ρ ∧ R A1 H1 v d ∧ PostS K sd W D A1 H1 (k d ρ s1) := by
  obtain ⟨A, st, ρ, hs, rs, rl, P⟩ := h
  refine ⟨A, st, ρ, hs, rs, rl, ?_⟩
  dsimp only [RI.fin] at P
  cases e : m ρ st with
  | ok d s1 =>
    rw [e] at P
    exact fun v H1 A1 nx rs1 r => ⟨A1, s1, d, ρ, hs, rs1, rl.mono nx, r, P.re nx⟩
  | ex x s1 =>
    rw [e] at P
    exact fun H1 A1 c dd nx rs1 r => P σ H1 A1 c dd nx hs rs1 (rl.mono nx) r
  | bad =>
    rw [e] at P
    exact P
theorem PostS.fin {α β : Type} {R : List Addr → Hp → β → α → Prop} {r : Res α} {k : α → Store → Fl} {D : Ends} {σ : L2.St} {ρ : Env} (h : PostS K sd W D A H (RI.fin ρ r k)) (hs : sd σ) (rl : RSl K A H σ ρ) :
    Post K R A H (fun c d H' => W c d σ H') (fun v H1 => ∃ A1 s1 d, Nx A A1 H H1 ∧ RS K A1 H1 s1 ∧ R A1 H1 v d ∧ PostS K sd W D A1 H1 (k d s1)) r := by
  unfold RI.fin at h
  cases r with
  | ok d s1 => exact fun v H1 A1 nx rs1 r => ⟨A1, s1, d, nx, rs1, r, h.re nx⟩
  | ex x s1 => exact fun H1 A1 c dd nx rs1 r => h σ H1 A1 c dd nx hs rs1 (rl.mono nx) r
  | bad => exact h
theorem posts_nx {D : Ends} {ρ : Env} {s : Store} {σ : L2.St} (h : PostS K sd W D A H (.nx ρ s)) (hs : sd σ) (rs : RS K A H s) (rl : RSl K A H σ ρ) : D.nx σ H := h σ H A (Nx.refl A H) hs rs rl
theorem posts_rt {D : Ends} {d : RI.D} {s : Store} {v : V} (h : PostS K sd W D A H (.rt d s)) (rs : RS K A H s) (r : RV K A H v d) : D.rt v H := h v H A (Nx.refl A H) rs r
end
section
variable {X : Cx} {sd : L2.St → Prop} {W : WX} {B : Tb} {pos : Pos}
def notComp : Expr → Bool
  | .ListComp .. => false
  | .SetComp .. => false
  | .DictComp .. => false
  | _ => true
theorem swaps_of {e : Expr} {t : Option Expr} {l : Nat} {env : PySem.Env} (h : notComp e = true) : swapsWith e t l env = pure false := by
  cases e <;> first | rfl | cases h
theorem sole_of {e t : Expr} {l : Nat} {env : PySem.Env} (h : notComp e = true) : swapsWithSole [t] e l env = pure false := by
  cases e <;> first | rfl | cases h
theorem ss_nil : PSs X [] (tSt X.K sd W (exSs B .nil)) := pss_nil.weak fun D σ H ⟨A, st, ρ, hs, rs, rl, P⟩ => by
  rw [exSs] at P
  exact posts_nx P hs rs rl
def seqF (k : Env → Store → Fl) : Fl → Fl
  | .nx ρ s => k ρ s
  | q => q
theorem exSs_cons (a : S) (r : Ss) (ρ : Env) (s : Store) : exSs B (.cons a r) ρ s = seqF (fun ρ s => exSs B r ρ s) (exS B a ρ s) := by
  rw [exSs]
  cases exS B a ρ s <;> rfl
theorem ss_cons {a : S} {r : Ss} {st : Stmt} {l : List Stmt} (h1 : PS X st (tSt X.K sd W (exS B a))) (h2 : PSs X l (tSt X.K sd W (exSs B r))) : PSs X (st :: l) (tSt X.K sd W (exSs B (.cons a r))) :=
  (pss_cons h1 h2).weak fun D σ H q => by
    obtain ⟨A, st, ρ, hs, rs, rl, P⟩ := q.to fun ρ s => exSs_cons (B := B) a r ρ s
    dsimp only at P
    refine ⟨A, st, ρ, hs, rs, rl, ?_⟩
    cases e : exS B a ρ st with
    | nx ρ1 s1 =>
      rw [e] at P
      exact fun σ' H' A' nx hs' rs' rl' => ⟨A', s1, ρ1, hs', rs', rl', PostS.re P nx⟩
    | rt d s1 => rw [e] at P; exact P
    | bk ρ1 s1 => rw [e] at P; exact P
    | ct ρ1 s1 => rw [e] at P; exact P
    | ex x ρ1 s1 => rw [e] at P; exact P
    | bad => rw [e] at P; exact P
theorem ss_asg {i : Nat} {x : Str} {e : E} {ee : Expr} {p : Pos} (hN : X.N.Nodup) (hi : X.N[i]? = some x) (hx : Loc X.env.scope x ∧ (X.fn x = true ∨ X.env.scope.names.lookup x = some .local)) (hsd : ∀ σ v, sd σ → sd (σ.set i (some v))) (nc : notComp ee = true) (he : PE X ee (tE X.K sd W (ev B e))) :
    PS X (.Assign [.Name x p] ee pos) (tSt X.K sd W (exS B (.asg (.name i) e))) :=
  (ps_set hN hi hx.1 he (swaps_of nc) hx.2).weak fun D σ H q => by
    obtain ⟨A, st, ρ, hs, rs, rl, P⟩ := tSt.fin (R := RV X.K) (m := ev B e) (k := fun d ρ s1 => .nx (ρ.set i (some d)) s1) (q.to fun ρ s => by rw [exS]; rfl)
    refine ⟨A, st, ρ, hs, rs, rl, P.imp fun v H1 ⟨A1, s1, d, ρ1, hs1, rs1, rl1, r, P1⟩ => ?_⟩
    exact posts_nx P1 (hsd σ v hs1) rs1 (rl1.set i r)
def setiK (d x y : D) (ρ : Env) (s : Store) : Fl := match x, y with
    | .ref n, .int k => (match s[n]? with
      | some (.lst l) => (match ixN l.length k with
        | some j => .nx ρ (s.set n (.lst (l.set j d)))
        | none => .bad)
      | _ => .bad)
    | _, _ => .bad
theorem ss_seti {o i e : E} {eo ei ee : Expr} {p : Pos} (nc : notComp ee = true) (ho : PE X eo (tE X.K sd W (ev B o))) (hi : PE X ei (tE X.K sd W (ev B i))) (he : PE X ee (tE X.K sd W (ev B e)))
    (ha : ∀ v, assign (.Subscript eo ei p) X.env v = (do
      let ov ← holding [v] (eval eo X.env)
      let iv ← holding [v, ov] (eval ei X.env)
      standAt p
      holding [v, ov, iv] (setItem ov iv v)
      release [v, ov, iv] [])) : PS X (.Assign [.Subscript eo ei p] ee pos) (tSt X.K sd W (exS B (.seti o i e))) :=
  (ps_asg he (pg_sub ho hi set_list ha) (sole_of nc)).weak fun D σ H q => by
    obtain ⟨A, st, ρ, hs, rs, rl, P⟩ := q.to (m' := fun ρ s => fin ρ (ev B e ρ s) fun d s1 => fin ρ (ev B o ρ s1) fun x s2 => fin ρ (ev B i ρ s2) fun y s3 => setiK d x y ρ s3) fun ρ s => by rw [exS]; rfl
    refine ⟨A, st, ρ, hs, rs, rl, (PostS.fin (R := RV X.K) P hs rl).imp fun v H1 ⟨A1, s1, d, nx1, rs1, r1, P1⟩ => ?_⟩
    refine ⟨A1, s1, ρ, hs, rs1, rl.mono nx1, (PostS.fin (R := RV X.K) P1 hs (rl.mono nx1)).imp fun x H2 ⟨A2, s2, dx, nx2, rs2, r2, P2⟩ => ?_⟩
    refine ⟨A2, s2, ρ, hs, rs2, (rl.mono nx1).mono nx2, (PostS.fin (R := RV X.K) P2 hs ((rl.mono nx1).mono nx2)).imp fun y H3 ⟨A3, s3, dy, nx3, rs3, r3, P3⟩ => ?_⟩
    have rd := (r1.mono nx2).mono nx3
    have rx := r2.mono nx3
    have rl3 := ((rl.mono nx1).mono nx2).mono nx3
    cases dx with
    | ref n =>
      cases dy with
      | int k =>
        cases rx with
        | @ref _ a ha =>
          cases r3
          have P3' : PostS X.K sd W D A3 H3 (match s3[n]? with
            | some (.lst l) => (match ixN l.length k with
              | some j => .nx ρ (s3.set n (.lst (l.set j d)))
              | none => .bad)
            | _ => .bad) := P3
          cases q1 : s3[n]? with
          | none => rw [q1] at P3'; exact P3'.elim
          | some ob =>
            rw [q1] at P3'
            cases ob with
            | lst l =>
              dsimp only at P3'
              cases q2 : ixN l.length k with
              | none => rw [q2] at P3'; exact P3'.elim
              | some j =>
                rw [q2] at P3'
                obtain ⟨xs, h1, rxs⟩ := rs3.at_ n a _ ha q1
                refine ⟨a, xs, k, j, rfl, rfl, h1, by rw [rxs.length]; exact q2, ?_⟩
                exact P3' σ _ A3 (Nx.heap (Kp.lst h1)) hs (rs3.setl ha q1 h1 (rxs.set j rd)) (rl3.mono (Nx.heap (Kp.lst h1)))
            | _ => exact P3'.elim
      | _ => exact P3.elim
    | _ => exact P3.elim
theorem ss_expr {e : E} {ee : Expr} (nc : notComp ee = true) (he : PE X ee (tE X.K sd W (ev B e))) : PS X (.Expr ee pos) (tSt X.K sd W (exS B (.expr e))) :=
  (ps_expr he (swaps_of nc)).weak fun D σ H q => by
    obtain ⟨A, st, ρ, hs, rs, rl, P⟩ := tSt.fin (R := RV X.K) (m := ev B e) (k := fun d ρ s1 => .nx ρ s1) (q.to fun ρ s => by rw [exS])
    exact ⟨A, st, ρ, hs, rs, rl, P.imp fun v H1 ⟨A1, s1, d, ρ1, hs1, rs1, rl1, r, P1⟩ => posts_nx P1 hs1 rs1 rl1⟩
theorem ss_ret {e : E} {ee : Expr} (he : PE X ee (tE X.K sd W (ev B e))) : PS X (.Return (some ee) pos) (tSt X.K sd W (exS B (.ret e))) :=
  (ps_ret he).weak fun D σ H q => by
    obtain ⟨A, st, ρ, hs, rs, rl, P⟩ := tSt.fin (R := RV X.K) (m := ev B e) (k := fun d ρ s1 => .rt d s1) (q.to fun ρ s => by rw [exS])
    exact ⟨A, st, ρ, hs, rs, rl, P.imp fun v H1 ⟨A1, s1, d, ρ1, hs1, rs1, rl1, r, P1⟩ => posts_rt P1 rs1 r⟩
theorem ss_retN : PS X (.Return none pos) (tSt X.K sd W (exS B .retN)) := ps_retN.weak fun D σ H ⟨A, st, ρ, hs, rs, rl, P⟩ => by
  rw [exS] at P
  exact posts_rt P rs .non
theorem ss_pass : PS X (.Pass pos) (tSt X.K sd W (exS B .pass)) := ps_pass.weak fun D σ H ⟨A, st, ρ, hs, rs, rl, P⟩ => by
  rw [exS] at P
  exact posts_nx P hs rs rl
theorem ss_brk : PS X (.Break pos) (tSt X.K sd W (exS B .brk)) := ps_break.weak fun D σ H ⟨A, st, ρ, hs, rs, rl, P⟩ => by
  rw [exS] at P
  exact P σ H A (Nx.refl A H) hs rs rl
theorem ss_cnt : PS X (.Continue pos) (tSt X.K sd W (exS B .cnt)) := ps_continue.weak fun D σ H ⟨A, st, ρ, hs, rs, rl, P⟩ => by
  rw [exS] at P
  exact P σ H A (Nx.refl A H) hs rs rl
theorem ss_ife {c : E} {a b : Ss} {ec : Expr} {la lb : List Stmt} (hc : PT X ec (tT X.K sd W fun ρ => truM (ev B c ρ))) (ha : PSs X la (tSt X.K sd W (exSs B a))) (hb : PSs X lb (tSt X.K sd W (exSs B b))) : PS X (.If ec la lb pos) (tSt X.K sd W (exS B (.ife c a b))) :=
  (ps_if hc ha hb).weak fun D σ H q => by
    obtain ⟨A, st, ρ, hs, rs, rl, P⟩ := tSt.fin (R := fun _ _ b c => b = c) (m := fun ρ => truM (ev B c ρ)) (k := fun k ρ s1 => if k = true then exSs B a ρ s1 else exSs B b ρ s1) (q.to fun ρ s => by rw [exS])
    refine ⟨A, st, ρ, hs, rs, rl, P.imp fun v H1 ⟨A1, s1, d, ρ1, hs1, rs1, rl1, r, P1⟩ => ?_⟩
    subst r
    cases v with
    | true => exact ⟨A1, s1, ρ1, hs1, rs1, rl1, P1⟩
    | false => exact ⟨A1, s1, ρ1, hs1, rs1, rl1, P1⟩
/-! ### what a loop walks -/
/-- J yields the items of w, as long as w's lists stand -/
def Fol (K : PySem.W.Frag) (A0 : List Addr) (H0 : Hp) (J : It) (w : Walk) : Prop :=
  ∀ (A : List Addr) (H : Hp) (st : Store) (i : Nat), Nx A0 A H0 H → RS K A H st → w.ok st →
    (∀ d, w.items[i]? = some d → J.go i H ∧ ∀ x H', J.yld i H x H' → Same H H' ∧ RV K A H' x d) ∧ (i = w.items.length → J.stop i H)
abbrev tI (K : PySem.W.Frag) (sd : L2.St → Prop) (W : WX) (m : Env → M Walk) : TI := tR K sd W (fun A H (J : It) w => Fol K A H J w) m
theorem fol_list {A : List Addr} {H : Hp} {n : Nat} {a : Addr} {l : List D} (ha : A[n]? = some a) : Fol X.K A H (Itl X.K a) ⟨l, [(n, l)]⟩ := by
  intro A' H' st i nx rs ok
  obtain ⟨xs, sq, r⟩ := lst_sq rs (.ref (nx.at_ ha)) (ok (n, l) (List.mem_singleton.mpr rfl))
  refine ⟨fun d hd => ?_, fun e => ?_⟩
  · obtain ⟨v, e1, rv⟩ := r.get hd
    refine ⟨⟨xs, v, sq, e1⟩, fun x H2 y => ?_⟩
    obtain ⟨eH, y⟩ := y
    subst eH
    have e2 := y xs sq
    rw [e1] at e2
    cases e2
    exact ⟨Same.refl _, rv⟩
  · exact ⟨xs, sq, by rw [r.length, e]; exact Nat.le_refl _⟩
theorem fol_tup {A : List Addr} {H : Hp} {a : Addr} {xs : List V} {l : List D} (sq : SqT X.K H a xs) (r : RVs X.K A H xs l) : Fol X.K A H (Itt X.K a) ⟨l, []⟩ := by
  intro A' H' st i nx rs ok
  have sq' := nx.kp.sqt X.K sq
  have r' := r.mono nx
  refine ⟨fun d hd => ?_, fun e => ?_⟩
  · obtain ⟨v, e1, rv⟩ := r'.get hd
    refine ⟨⟨xs, v, sq', e1⟩, fun x H2 y => ?_⟩
    obtain ⟨eH, y⟩ := y
    subst eH
    have e2 := y xs sq'
    rw [e1] at e2
    cases e2
    exact ⟨Same.refl _, rv⟩
  · exact ⟨xs, sq', by rw [r'.length, e]; exact Nat.le_refl _⟩
theorem fol_rng {A : List Addr} {H : Hp} {lo : Int} {n : Nat} : Fol X.K A H (Itr lo n) ⟨(List.range n).map fun k => D.int (lo + (k : Nat)), []⟩ := by
  intro A' H' st i nx rs ok
  refine ⟨fun d hd => ?_, fun e => ?_⟩
  · have hi : i < n := by
      have := (List.getElem?_eq_some_iff.mp hd).1
      simpa using this
    refine ⟨hi, fun x H2 y => ?_⟩
    obtain ⟨eH, y⟩ := y
    subst eH y
    have e1 : d = .int (lo + (i : Nat)) := by
      simp only [List.getElem?_map, List.getElem?_range hi, Option.map_some, Option.some.injEq] at hd
      exact hd.symm
    subst e1
    exact ⟨Same.refl _, .int _⟩
  · have e' : i = n := by simpa using e
    exact Nat.le_of_eq e'.symm
end
end RI
set_option maxRecDepth 100000
set_option maxHeartbeats 4000000
/-! RK: loops, raise, try. -/
namespace RI
open PySem L2 PyProof.Rows
variable [Xs]
section
variable {X : Cx} {sd : L2.St → Prop} {W : WX} {B : Tb} {pos : Pos} {tg : Expr}
/-- a list or a tuple, walked: which of them is known where it is walked -/
theorem pi_any {l : Expr} {tl : TE} (hl : PE X l tl) : PI X tg l (fun σ H R => tl σ H fun x H1 => ∃ a, x = .ref a ∧ (((∃ xs, SqL X.K H1 a xs) ∧ R (Itl X.K a) H1) ∨ ((∃ xs, SqT X.K H1 a xs) ∧ R (Itt X.K a) H1))) := by
  refine ⟨fun pins s σ H R I h => thn (hl.run pins s σ H _ I h) fun v t ⟨x, G, J, rr, a, ex, q⟩ => ?_⟩
  subst ex
  cases rr
  have own : ∀ b ∈ [t.heap.objs.size], FpOk X pins G b := fun b hb => by
    cases List.mem_singleton.mp hb
    exact J.fpOk (Nat.le_refl _) (J.hok.fresh (Nat.le_refl _))
  rcases q with ⟨⟨xs, sq⟩, q⟩ | ⟨⟨xs, sq⟩, q⟩
  · obtain ⟨us, vs, pl, _⟩ := J.list sq
    exact wpAny_pyIter_list pl.isList ⟨t.heap.objs.size, [t.heap.objs.size], _, _, G, rfl, J.kept (t' := t.toks) (fun b o e => Heap.get?_push_of_some _ e), turn_list a _, ⟨_, Heap.get?_push_size _ rfl, rfl, rfl⟩, own, q⟩
  · obtain ⟨us, vs, pl, _⟩ := J.tuple sq
    exact wpAny_pyIter_tuple (show t.heap.IsTuple a us.toArray from pl) ⟨t.heap.objs.size, [t.heap.objs.size], _, _, G, rfl, J.kept (t' := t.toks) (fun b o e => Heap.get?_push_of_some _ e), turn_tuple a _, ⟨_, Heap.get?_push_size _ rfl, rfl, rfl⟩, own, q⟩
theorem si_seq {e : E} {ee : Expr} (he : PE X ee (tE X.K sd W (ev B e))) : PI X tg ee (tI X.K sd W (evI B (.seq e))) :=
  (pi_any he).weak fun σ H R q => by
    obtain ⟨A, st, ρ, hs, rs, rl, P⟩ := tR.bnd (R1 := RV X.K) (m := ev B e) (f := fun x _ => seqK x) (q.to fun ρ => by rw [evI])
    refine ⟨A, st, ρ, hs, rs, rl, P.imp fun x H1 ⟨A1, s1, d, ρ1, hs1, rs1, rl1, r, P1⟩ => ?_⟩
    unfold seqK at P1
    cases d with
    | tup l =>
      cases r with
      | @tup a xs _ sq rx => exact ⟨a, rfl, .inr ⟨⟨xs, sq⟩, P1 _ H1 A1 (Nx.refl _ _) rs1 (fol_tup sq rx)⟩⟩
    | ref n =>
      cases r with
      | @ref _ a ha =>
        have P1' : Post X.K (fun A H (J : It) w => Fol X.K A H J w) A1 H1 (fun c d H' => W c d σ H') R (ofO ((lstOf s1 (.ref n)).map fun l => ⟨l, [(n, l)]⟩) s1) := P1
        cases e1 : lstOf s1 (.ref n) with
        | none => rw [e1] at P1'; exact P1'.elim
        | some l =>
          rw [e1] at P1'
          obtain ⟨xs, sq, rx⟩ := lst_sq rs1 (.ref ha) e1
          exact ⟨a, rfl, .inl ⟨⟨xs, sq⟩, P1' _ H1 A1 (Nx.refl _ _) rs1 (fol_list ha)⟩⟩
    | _ => exact P1.elim
theorem boot_rng : bootBuiltins ("range" : Str) = some (.type "range") := boot_range
theorem si_rng1 {e : E} {ee : Expr} {p : Pos} (h1 : X.mg "range" = none) (g1 : Gl X "range") (hl : notStar ee = true) (he : PE X ee (tE X.K sd W (ev B e))) : PI X tg (.Call (.Name "range" p) [ee] [] pos) (tI X.K sd W (evI B (.rng1 e))) :=
  (pi_range1 g1 h1 (sa_cons hl he sa_nil) (star_cons hl)).weak fun σ H R q => by
    obtain ⟨A, st, ρ, hs, rs, rl, P⟩ := tR.bnd (R1 := RVs X.K) (m := evs B (.cons e .nil)) (f := fun ds _ => match ds with
      | [d] => rng1K d
      | _ => badM) (q.to (m' := fun ρ => bnd (evs B (.cons e .nil) ρ) fun ds => match ds with
      | [d] => rng1K d
      | _ => badM) fun ρ => by rw [evI, evs, bnd_assoc]; rfl)
    refine ⟨A, st, ρ, hs, rs, rl, P.imp fun vs H1 ⟨A1, s1, ds, ρ1, hs1, rs1, rl1, r, P1⟩ => ?_⟩
    match ds, r, P1 with
    | [], _, P1 => exact P1.elim
    | _ :: _ :: _, _, P1 => exact P1.elim
    | [d], r, P1 =>
      obtain ⟨v, rfl, rv⟩ := rvs1 r
      cases d with
      | int j =>
        cases rv
        have P1' : Post X.K (fun A H (J : It) w => Fol X.K A H J w) A1 H1 (fun c d H' => W c d σ H') R (ofO (rngD 0 j) s1) := P1
        by_cases c : -(2 ^ 62) ≤ (0 : Int) ∧ (0 : Int) < 2 ^ 62 ∧ -(2 ^ 62) ≤ j ∧ j < 2 ^ 62
        · unfold rngD at P1'
          rw [if_pos c, Int.sub_zero] at P1'
          exact ⟨j, rfl, c.2.2.1, c.2.2.2, P1' _ H1 A1 (Nx.refl _ _) rs1 (fol_rng (n := j.toNat))⟩
        · unfold rngD at P1'
          rw [if_neg c] at P1'
          exact P1'.elim
      | _ => exact P1.elim
/-! ### for -/
def forF (k : Env → Store → Fl) : Fl → Fl
  | .nx ρ s => k ρ s
  | .ct ρ s => k ρ s
  | .bk ρ s => .nx ρ s
  | r => r
theorem forL_cons (w : Walk) (t : T) (body : Env → Store → Fl) (d : D) (r : List D) (ρ : Env) (s : Store) : forL w t body (d :: r) ρ s = if w.ok s then (match asgT t d ρ s with
    | none => .bad
    | some ρ' => forF (fun ρ s => forL w t body r ρ s) (body ρ' s)) else .bad := by
  rw [forL]
  by_cases ok : w.ok s
  · rw [if_pos ok, if_pos ok]
    cases asgT t d ρ s with
    | none => rfl
    | some ρ' =>
      dsimp only
      cases body ρ' s <;> rfl
  · rw [if_neg ok, if_neg ok]
theorem ss_for {i : Nat} {x : Str} {p : Pos} {it : I} {ei : Expr} {b : Ss} {l : List Stmt} (hp : PassesOwn (model X.prog X.w) X.A X.env X.xe) (hc : X.calm = true) (hN : X.N.Nodup) (hi : X.N[i]? = some x) (hx : Loc X.env.scope x ∧ (X.fn x = true ∨ X.env.scope.names.lookup x = some .local))
    (hsd : ∀ σ v, sd σ → sd (σ.set i (some v))) (hf : ∀ x, foldedSetIterable ei X.env x = pure x) (hI : PI X (.Name x p) ei (tI X.K sd W (evI B it))) (hb : PSs X l (tSt X.K sd W (exSs B b))) : PS X (.For (.Name x p) ei l [] pos) (tSt X.K sd W (exS B (.for (.name i) it b))) :=
  (ps_for hp hc hI (pg_name hN hi hx.1 hx.2) hb hf).weak fun D σ H q => by
    obtain ⟨A, st, ρ, hs, rs, rl, P⟩ := q.to (m' := fun ρ s => fin ρ (evI B it ρ s) fun w s1 => forL w (.name i) (fun ρ' s' => exSs B b ρ' s') w.items ρ s1) fun ρ s => by rw [exS]
    refine ⟨A, st, ρ, hs, rs, rl, (PostS.fin (R := fun A H (J : It) w => Fol X.K A H J w) P hs rl).imp fun J H0 ⟨A0, s0, w, nx0, rs0, fol, P0⟩ => ?_⟩
    have rl0 := rl.mono nx0
    clear P q
    refine ⟨fun k m σ H => m = w.items.length - k ∧ k ≤ w.items.length ∧ ∃ A1 s1 ρ1, Nx A0 A1 H0 H ∧ sd σ ∧ RS X.K A1 H s1 ∧ RSl X.K A1 H σ ρ1 ∧ PostS X.K sd W D A1 H (forL w (.name i) (fun ρ' s' => exSs B b ρ' s') (w.items.drop k) ρ1 s1),
      ⟨w.items.length, by simp, Nat.zero_le _, A0, s0, ρ, Nx.refl _ _, hs, rs0, rl0, P0⟩, ?_⟩
    rintro k m σ1 H1 ⟨rfl, hk, A1, s1, ρ1, nx1, hs1, rs1, rl1, P1⟩
    by_cases hlt : k < w.items.length
    · obtain ⟨d, hd⟩ : ∃ d, w.items[k]? = some d := ⟨w.items[k], by simp [hlt]⟩
      have hdrop : w.items.drop k = d :: w.items.drop (k + 1) := by
        rw [List.drop_eq_getElem_cons hlt]
        congr
        exact Option.some.inj ((List.getElem?_eq_getElem hlt).symm.trans hd)
      rw [hdrop, forL_cons] at P1
      by_cases ok : w.ok s1
      · rw [if_pos ok] at P1
        obtain ⟨go, yl⟩ := (fol A1 H1 s1 k nx1 rs1 ok).1 d hd
        refine .inr ⟨go, fun σ' H' => ∃ A2 s2 ρ2, Nx A0 A2 H0 H' ∧ sd σ' ∧ RS X.K A2 H' s2 ∧ RSl X.K A2 H' σ' ρ2 ∧ PostS X.K sd W D A2 H' (forL w (.name i) (fun ρ' s' => exSs B b ρ' s') (w.items.drop (k + 1)) ρ2 s2),
          fun σ' H' ⟨A2, s2, ρ2, a, b, c, d, e⟩ => ⟨w.items.length - (k + 1), by omega, rfl, hlt, A2, s2, ρ2, a, b, c, d, e⟩, fun y H2 hy => ?_⟩
        obtain ⟨sm, rv⟩ := yl y H2 hy
        have nx2 : Nx A1 A1 H1 H2 := Nx.heap (same_kp sm)
        refine ⟨A1, s1, ρ1.set i (some d), hsd _ _ hs1, rs1.same sm, (rl1.mono nx2).set i rv, ?_⟩
        have P2 : PostS X.K sd W D A1 H2 (forF (fun ρ s => forL w (.name i) (fun ρ' s' => exSs B b ρ' s') (w.items.drop (k + 1)) ρ s) (exSs B b (ρ1.set i (some d)) s1)) := PostS.re P1 nx2
        have nx02 := nx1.trans nx2
        cases e : exSs B b (ρ1.set i (some d)) s1 with
        | nx ρ' s' => rw [e] at P2; exact fun σ3 H3 A3 nx3 hs3 rs3 rl3 => ⟨A3, s', ρ', nx02.trans nx3, hs3, rs3, rl3, PostS.re P2 nx3⟩
        | ct ρ' s' => rw [e] at P2; exact fun σ3 H3 A3 nx3 hs3 rs3 rl3 => ⟨A3, s', ρ', nx02.trans nx3, hs3, rs3, rl3, PostS.re P2 nx3⟩
        | bk ρ' s' => rw [e] at P2; exact P2
        | rt d' s' => rw [e] at P2; exact P2
        | ex x' ρ' s' => rw [e] at P2; exact P2
        | bad => rw [e] at P2; exact P2.elim
      · rw [if_neg ok] at P1
        exact P1.elim
    · have e : k = w.items.length := by omega
      subst e
      rw [List.drop_length, forL] at P1
      by_cases ok : w.ok s1
      · rw [if_pos ok] at P1
        exact .inl ⟨(fol A1 H1 s1 _ nx1 rs1 ok).2 rfl, posts_nx P1 hs1 rs1 rl1⟩
      · rw [if_neg ok] at P1
        exact P1.elim
/-! ### while -/
theorem whlL_succ (c : Env → M Bool) (body : Env → Store → Fl) (n : Nat) (ρ : Env) (s : Store) : whlL c body (n + 1) ρ s = fin ρ (c ρ s) fun b s1 => if b = true then forF (fun ρ s => whlL c body n ρ s) (body ρ s1) else .nx ρ s1 := by
  rw [whlL]
  congr
  funext b s1
  cases b with
  | false => rfl
  | true =>
    simp only [if_true]
    cases body ρ s1 <;> rfl
theorem ss_whl {c : E} {b : Ss} {ec : Expr} {l : List Stmt} (hp : PassesOwn (model X.prog X.w) X.A X.env X.xe) (hc : PT X ec (tT X.K sd W fun ρ => truM (ev B c ρ))) (hb : PSs X l (tSt X.K sd W (exSs B b))) : PS X (.While ec l [] pos) (tSt X.K sd W (exS B (.whl c b))) :=
  (ps_while hp hc hb).weak fun D σ H q => by
    obtain ⟨A, st, ρ, hs, rs, rl, P⟩ := q.to (m' := fun ρ s => whlL (fun ρ' => truM (ev B c ρ')) (fun ρ' s' => exSs B b ρ' s') turns ρ s) fun ρ s => by rw [exS]
    refine ⟨fun m σ H => ∃ A s ρ, sd σ ∧ RS X.K A H s ∧ RSl X.K A H σ ρ ∧ PostS X.K sd W D A H (whlL (fun ρ' => truM (ev B c ρ')) (fun ρ' s' => exSs B b ρ' s') m ρ s), ⟨turns, A, st, ρ, hs, rs, rl, P⟩, ?_⟩
    rintro m σ1 H1 ⟨A1, s1, ρ1, hs1, rs1, rl1, P1⟩
    cases m with
    | zero => exact P1.elim
    | succ m =>
      rw [whlL_succ] at P1
      refine ⟨A1, s1, ρ1, hs1, rs1, rl1, (PostS.fin (R := fun _ _ b c => b = c) P1 hs1 rl1).imp fun k H2 ⟨A2, s2, k', nx2, rs2, ek, P2⟩ => ?_⟩
      subst ek
      have rl2 := rl1.mono nx2
      cases k with
      | true =>
        rw [if_pos rfl] at P2 ⊢
        refine ⟨fun σ' H' => ∃ A s ρ, sd σ' ∧ RS X.K A H' s ∧ RSl X.K A H' σ' ρ ∧ PostS X.K sd W D A H' (whlL (fun ρ' => truM (ev B c ρ')) (fun ρ' s' => exSs B b ρ' s') m ρ s), fun σ' H' z => ⟨m, Nat.lt_succ_self m, z⟩, A2, s2, ρ1, hs1, rs2, rl2, ?_⟩
        cases e : exSs B b ρ1 s2 with
        | nx ρ' s' => rw [e] at P2; exact fun σ3 H3 A3 nx3 hs3 rs3 rl3 => ⟨A3, s', ρ', hs3, rs3, rl3, PostS.re P2 nx3⟩
        | ct ρ' s' => rw [e] at P2; exact fun σ3 H3 A3 nx3 hs3 rs3 rl3 => ⟨A3, s', ρ', hs3, rs3, rl3, PostS.re P2 nx3⟩
        | bk ρ' s' => rw [e] at P2; exact P2
        | rt d' s' => rw [e] at P2; exact P2
        | ex x' ρ' s' => rw [e] at P2; exact P2
        | bad => rw [e] at P2; exact P2.elim
      | false =>
        rw [if_neg Bool.false_ne_true] at P2 ⊢
        exact posts_nx P2 hs1 rs2 rl2
/-! ### raise -/
theorem pmk_bare {y : Str} {p : Pos} (h : ExAt X y) (hg : Gl X y) (hdb : (y == ("__debug__" : Str)) = false) : PMk X (.Call (.Name y p) [] [] pos) (fun _ H Q => Q (.ref (He.ga X.K y)) none H) := by
  intro pins s σ H Q I q
  refine wpAny_Call_Name_kw (ld_glob I hg h.gl (PySem.W.callWith_K0 I.kIn h.kp ?_) hdb)
  obtain ⟨bm, N, nm, qn, bs, hdct, sn, sub, ab, col, dd, k0, k1, k2, k3, k5, mN, hC, hN, hni, tl⟩ := exc_obj I.kIn h.ex
  exact wpAny_call_exc_subT PySem.F.excBase_ValueError tl hC hN hni (fun h' e made => mk_of I made h.rs q (I.hok.gone made.new)) (Nat.zero_le _)
theorem ss_raise {y : Str} {p pos' : Pos} (hc : X.calm = true) (tk : Takes X W) (h : ExAt X y) (hn : y ∈ Xs.names) (hg : Gl X y) (hdb : (y == ("__debug__" : Str)) = false) : PS X (.Raise (some (.Call (.Name y p) [] [] pos')) none pos) (tSt X.K sd W (exS B (.raise y .nil))) :=
  (ps_raise hc tk (pmk_bare h hg hdb)).weak fun D σ H ⟨A, st, ρ, hs, rs, rl, P⟩ => by
    rw [exS] at P
    exact P σ H A _ _ (Nx.refl _ _) hs rs rl ⟨rfl, hn, fun _ => rfl, fun z => absurd rfl z⟩
end
end RI
set_option maxRecDepth 100000
set_option maxHeartbeats 4000000
/-! RL: the checker of statements: what it lets through keeps what the machine does. -/
namespace RI
open PySem L2 PyProof.Rows
variable [Xs]
section
variable {X : Cx} {sd : L2.St → Prop} {W : WX} {B : Tb} {pos : Pos}
/-- what a suite's end is, from the try's -/
theorem posts_unslot {K : PySem.W.Frag} {A : List Addr} {H : Hp} {D : Ends} {i : Nat} {a : Addr} {r : Fl} (hsd : ∀ (σ : L2.St) (v : Option V), sd σ → sd (σ.set i v)) (h : PostS K sd W D A H (unslot (some i) r)) :
    PostS K (fun σ => sd σ ∧ σ[i]? = some (some (.ref a))) W { nx := fun σ' H' => D.nx (σ'.set i none) H', rt := D.rt, bk := fun σ' H' => D.bk (σ'.set i none) H', ct := fun σ' H' => D.ct (σ'.set i none) H' } A H r := by
  cases r with
  | nx ρ s => exact fun σ' H' A' nx hs rs rl => h (σ'.set i none) H' A' nx (hsd _ _ hs.1) rs (rl.unset i)
  | bk ρ s => exact fun σ' H' A' nx hs rs rl => h (σ'.set i none) H' A' nx (hsd _ _ hs.1) rs (rl.unset i)
  | ct ρ s => exact fun σ' H' A' nx hs rs rl => h (σ'.set i none) H' A' nx (hsd _ _ hs.1) rs (rl.unset i)
  | rt d s => exact h
  | ex x ρ s => exact h.elim
  | bad => exact h
theorem posts_unslot0 {K : PySem.W.Frag} {A : List Addr} {H : Hp} {D : Ends} {r : Fl} (h : PostS K sd W D A H (unslot none r)) : PostS K sd W D A H r := by
  cases r with
  | ex x ρ s => exact h.elim
  | _ => exact h
theorem exS_try (b : Ss) (x : Str) (i : Option Nat) (su : Ss) (ρ : Env) (s : Store) : exS B (.try b x i su) ρ s = match exSs B b ρ s with
    | .ex e ρ1 s1 => if B.sub e.cls x = true then unslot i (exSs { B with exn := some e } su (hideE i ρ1) s1) else .ex e ρ1 s1
    | r => r := by
  first
    | (rw [exS]; done)
    | (rw [exS]; cases exSs B b ρ s <;> rfl)
/-- try .. except x as n -/
theorem ss_try_as {x n : Str} {c : Value} {i : Nat} {b su : Ss} {body suite : List Stmt} {b₀ : Stmt} {np pos' : Pos} (hs : X.stack = X.env :: X.outer) (hf : X.env.frame = some X.env.locals) (hN : X.N.Nodup) (hi : X.N[i]? = some n) (hln : X.env.kindOf n = some .local) (hc : Names X x c)
    (hcl : ∀ y ∈ Xs.names, PySem.W.exmOne X.K (.ref (He.ga X.K y)) c = some (B.sub y x)) (tk : Takes X W) (hsd : ∀ (σ : L2.St) (v : Option V), sd σ → sd (σ.set i v)) (hin : ∀ σ, sd σ → ∀ (A : List Addr) (H : Hp) (ρ : Env), RSl X.K A H σ ρ → i < σ.length)
    (hb : ∀ (W' : WX) (pn : List (Addr × Obj)) (xe : Value → Shared → Prop), Takes (X.tr pn xe) W' → PassesOwn (model X.prog X.w) X.A X.env xe → PSs (X.tr pn xe) body (tSt X.K sd W' (exSs B b)))
    (hsu : ∀ (a : Addr) (oe : Obj) (e : Exn) (dd : Option Addr) (pn : List (Addr × Obj)), Zc (.ref (He.ga X.K e.cls)) dd oe → (∃ vs, oe.data = .fields vs) → e.cls ∈ Xs.names → (e.fs = [] → dd = none) →
      PSs (X.suite a ((a, oe) :: pn)) (b₀ :: suite) (tSt X.K (fun σ => sd σ ∧ σ[i]? = some (some (.ref a))) W (exSs { B with exn := some e } su))) :
    PS X (.Try body [.ExceptHandler (some (.Name x np)) (some n) (b₀ :: suite) pos'] [] [] pos) (tSt X.K sd W (exS B (.try b x (some i) su))) :=
  (ps_try_as (tb := fun W' => tSt X.K sd W' (exSs B b)) (ts := fun a cls d D' σ H => ∃ (e : Exn) (A : List Addr) (st : Store) (ρ : Env), RX X.K A H e cls d ∧ (sd σ ∧ σ[i]? = some (some (.ref a))) ∧ RS X.K A H st ∧ RSl X.K A H σ ρ ∧ PostS X.K (fun σ => sd σ ∧ σ[i]? = some (some (.ref a))) W D' A H (exSs { B with exn := some e } su ρ st))
    hs hf hN hi hln hc tk hb (fun a oe cls d pn hz hd => ⟨fun pins s σ H D' I ⟨e, A, st, ρ, rx, hs', rs, rl, P⟩ => (hsu a oe e d pn (by rw [← rx.1]; exact hz) hd rx.2.1 rx.2.2.1).run pins s σ H D' I ⟨A, st, ρ, hs', rs, rl, P⟩⟩)).weak fun D σ H q => by
    obtain ⟨A, st, ρ, hs', rs, rl, P⟩ := q.to (exS_try b x (some i) su)
    refine ⟨A, st, ρ, hs', rs, rl, ?_⟩
    dsimp only at P
    cases e : exSs B b ρ st with
    | nx ρ1 s1 => rw [e] at P; exact P
    | rt d s1 => rw [e] at P; exact P
    | bk ρ1 s1 => rw [e] at P; exact P
    | ct ρ1 s1 => rw [e] at P; exact P
    | bad => rw [e] at P; exact P
    | ex x1 ρ1 s1 =>
      rw [e] at P
      dsimp only at P
      intro σ1 H1 A1 cv dd nx hs1 rs1 rl1 rx
      refine ⟨B.sub x1.cls x, by rw [rx.1]; exact hcl _ rx.2.1, fun hy a ha => ?_, fun hn => ?_⟩
      · rw [hy, if_pos rfl] at P
        have hlt := hin σ1 hs1 A1 H1 ρ1 rl1
        exact ⟨x1, A1, s1, ρ1.set i none, rx, ⟨hsd _ _ hs1, by rw [List.getElem?_set_self hlt]⟩, rs1, rl1.hide i _, posts_unslot hsd (PostS.re P nx)⟩
      · rw [hn, if_neg Bool.false_ne_true] at P
        exact P σ1 H1 A1 cv dd nx hs1 rs1 rl1 rx
/-- try .. except x -/
theorem ss_try_only {x : Str} {c : Value} {b su : Ss} {body suite : List Stmt} {b₀ : Stmt} {np pos' : Pos} (hs : X.stack = X.env :: X.outer) (hf : X.env.frame = some X.env.locals) (hc : Names X x c)
    (hcl : ∀ y ∈ Xs.names, PySem.W.exmOne X.K (.ref (He.ga X.K y)) c = some (B.sub y x)) (tk : Takes X W)
    (hb : ∀ (W' : WX) (pn : List (Addr × Obj)) (xe : Value → Shared → Prop), Takes (X.tr pn xe) W' → PassesOwn (model X.prog X.w) X.A X.env xe → PSs (X.tr pn xe) body (tSt X.K sd W' (exSs B b)))
    (hsu : ∀ (a : Addr) (oe : Obj) (e : Exn) (pn : List (Addr × Obj)), PSs (X.suite a ((a, oe) :: pn)) (b₀ :: suite) (tSt X.K sd W (exSs { B with exn := some e } su))) :
    PS X (.Try body [.ExceptHandler (some (.Name x np)) none (b₀ :: suite) pos'] [] [] pos) (tSt X.K sd W (exS B (.try b x none su))) :=
  (ps_try_only (tb := fun W' => tSt X.K sd W' (exSs B b)) (ts := fun a cls d D' σ H => ∃ (e : Exn), tSt X.K sd W (exSs { B with exn := some e } su) D' σ H)
    hs hf hc tk hb (fun a oe cls d pn hz hd => ⟨fun pins s σ H D' I ⟨e, q⟩ => (hsu a oe e pn).run pins s σ H D' I q⟩)).weak fun D σ H q => by
    obtain ⟨A, st, ρ, hs', rs, rl, P⟩ := q.to (exS_try b x none su)
    refine ⟨A, st, ρ, hs', rs, rl, ?_⟩
    dsimp only at P
    cases e : exSs B b ρ st with
    | nx ρ1 s1 => rw [e] at P; exact P
    | rt d s1 => rw [e] at P; exact P
    | bk ρ1 s1 => rw [e] at P; exact P
    | ct ρ1 s1 => rw [e] at P; exact P
    | bad => rw [e] at P; exact P
    | ex x1 ρ1 s1 =>
      rw [e] at P
      dsimp only at P
      intro σ1 H1 A1 cv dd nx hs1 rs1 rl1 rx
      refine ⟨B.sub x1.cls x, by rw [rx.1]; exact hcl _ rx.2.1, fun hy a ha => ?_, fun hn => ?_⟩
      · rw [hy, if_pos rfl] at P
        exact ⟨x1, A1, s1, ρ1, hs1, rs1, rl1, posts_unslot0 (PostS.re P nx)⟩
      · rw [hn, if_neg Bool.false_ne_true] at P
        exact P σ1 H1 A1 cv dd nx hs1 rs1 rl1 rx
end
/-! ### the checker -/
def ckI (c : Ck) : I → Expr → Bool
  | .seq e, x => ckE c e x && notSet x
  | .rng1 e, .Call (.Name r _) [x] [] _ => c.rng && decide (r = "range") && glB c.sc r && notStar x && ckE c e x
  | _, _ => false
/-- what is seen, and good -/
def onV {α : Type} : Option α → (α → Bool) → Bool
  | some a, f => f a
  | none, _ => false
theorem onV_of {α : Type} {o : Option α} {f : α → Bool} (h : onV o f = true) : ∃ a, o = some a ∧ f a = true := by
  cases o with
  | none => cases h
  | some a => exact ⟨a, rfl, h⟩
def asgV : Stmt → Option (Str × Expr)
  | .Assign [.Name x _] ee _ => some (x, ee)
  | _ => none
theorem asgV_of {s : Stmt} {x : Str} {ee : Expr} (h : asgV s = some (x, ee)) : ∃ p q, s = .Assign [.Name x p] ee q := by
  unfold asgV at h
  split at h
  · cases h; exact ⟨_, _, rfl⟩
  · cases h
def setV : Stmt → Option (Expr × Expr × Expr)
  | .Assign [.Subscript eo ei _] ee _ => some (eo, ei, ee)
  | _ => none
theorem setV_of {s : Stmt} {eo ei ee : Expr} (h : setV s = some (eo, ei, ee)) : ∃ p q, s = .Assign [.Subscript eo ei p] ee q := by
  unfold setV at h
  split at h
  · cases h; exact ⟨_, _, rfl⟩
  · cases h
def exprV : Stmt → Option Expr
  | .Expr ee _ => some ee
  | _ => none
theorem exprV_of {s : Stmt} {ee : Expr} (h : exprV s = some ee) : ∃ p, s = .Expr ee p := by
  unfold exprV at h
  split at h
  · cases h; exact ⟨_, rfl⟩
  · cases h
def retV : Stmt → Option (Option Expr)
  | .Return o _ => some o
  | _ => none
theorem retV_of {s : Stmt} {o : Option Expr} (h : retV s = some o) : ∃ p, s = .Return o p := by
  unfold retV at h
  split at h
  · cases h; exact ⟨_, rfl⟩
  · cases h
def passV : Stmt → Option Nat
  | .Pass _ => some 0
  | .Break _ => some 1
  | .Continue _ => some 2
  | _ => none
theorem passV_0 {s : Stmt} (h : passV s = some 0) : ∃ p, s = .Pass p := by
  unfold passV at h
  split at h <;> first | exact ⟨_, rfl⟩ | cases h
theorem passV_1 {s : Stmt} (h : passV s = some 1) : ∃ p, s = .Break p := by
  unfold passV at h
  split at h <;> first | exact ⟨_, rfl⟩ | cases h
theorem passV_2 {s : Stmt} (h : passV s = some 2) : ∃ p, s = .Continue p := by
  unfold passV at h
  split at h <;> first | exact ⟨_, rfl⟩ | cases h
def ifV : Stmt → Option (Expr × List Stmt × List Stmt)
  | .If e a b _ => some (e, a, b)
  | _ => none
theorem ifV_of {s : Stmt} {e : Expr} {a b : List Stmt} (h : ifV s = some (e, a, b)) : ∃ p, s = .If e a b p := by
  unfold ifV at h
  split at h
  · cases h; exact ⟨_, rfl⟩
  · cases h
def forV : Stmt → Option (Str × Expr × List Stmt)
  | .For (.Name x _) ei l [] _ => some (x, ei, l)
  | _ => none
theorem forV_of {s : Stmt} {x : Str} {e : Expr} {a : List Stmt} (h : forV s = some (x, e, a)) : ∃ p q, s = .For (.Name x p) e a [] q := by
  unfold forV at h
  split at h
  · cases h; exact ⟨_, _, rfl⟩
  · cases h
def whlV : Stmt → Option (Expr × List Stmt)
  | .While ek l [] _ => some (ek, l)
  | _ => none
theorem whlV_of {s : Stmt} {e : Expr} {a : List Stmt} (h : whlV s = some (e, a)) : ∃ p, s = .While e a [] p := by
  unfold whlV at h
  split at h
  · cases h; exact ⟨_, rfl⟩
  · cases h
def raiseV : Stmt → Option Str
  | .Raise (some (.Call (.Name z _) [] [] _)) none _ => some z
  | _ => none
theorem raiseV_of {s : Stmt} {z : Str} (h : raiseV s = some z) : ∃ p q r, s = .Raise (some (.Call (.Name z p) [] [] q)) none r := by
  unfold raiseV at h
  split at h
  · cases h; exact ⟨_, _, _, rfl⟩
  · cases h
def tryV : Stmt → Option (List Stmt × Str × Option Str × Stmt × List Stmt)
  | .Try body [.ExceptHandler (some (.Name z _)) nm (s0 :: suite) _] [] [] _ => some (body, z, nm, s0, suite)
  | _ => none
theorem tryV_of {s s0 : Stmt} {z : Str} {body suite : List Stmt} {nm : Option Str} (h : tryV s = some (body, z, nm, s0, suite)) : ∃ p q r, s = .Try body [.ExceptHandler (some (.Name z p)) nm (s0 :: suite) q] [] [] r := by
  unfold tryV at h
  split at h
  · cases h; exact ⟨_, _, _, rfl⟩
  · cases h
mutual
def ckS (c : Ck) : S → Stmt → Bool
  | .asg (.name i) e, s => onV (asgV s) fun (x, ee) => locB c.sc x && decide (c.N[i]? = some x) && slotOk c.md i && notComp ee && ckE c e ee
  | .asg (.tup _) _, _ => false
  | .aug .., _ => false
  | .seti o i e, s => onV (setV s) fun (eo, ei, ee) => notComp ee && plainIxB ei && ckE c o eo && ckE c i ei && ckE c e ee
  | .expr e, s => onV (exprV s) fun ee => notComp ee && ckE c e ee
  | .ret e, s => onV (retV s) fun o => onV o fun ee => ckE c e ee
  | .retN, s => onV (retV s) fun o => o.isNone
  | .pass, s => decide (passV s = some 0)
  | .brk, s => decide (passV s = some 1)
  | .cnt, s => decide (passV s = some 2)
  | .ife k a b, s => onV (ifV s) fun (ek, la, lb) => tok k && ckE c k ek && ckSs c a la && ckSs c b lb
  | .for (.name i) it b, s => onV (forV s) fun (x, ei, l) => coldB c.md && locB c.sc x && decide (c.N[i]? = some x) && slotOk c.md i && ckI c it ei && ckSs c b l
  | .for (.tup _) _ _, _ => false
  | .whl k b, s => onV (whlV s) fun (ek, l) => coldB c.md && tok k && ckE c k ek && ckSs c b l
  | .raise y .nil, s => onV (raiseV s) fun z => coldB c.md && decide (y = z) && glB c.sc z && okNm z && decide (z ∈ c.raises)
  | .raise _ (.cons _ _), _ => false
  | .try b x (some i) su, s => onV (tryV s) fun (body, z, nm, s0, suite) => onV nm fun n => coldB c.md && decide (x = z) && glB c.sc z && okNm z && decide (z ∈ c.exis) && lclB c.sc n && decide (c.N[i]? = some n) && ckSs c b body && ckSs { c with md := .hot (some (n, i)) } su (s0 :: suite)
  | .try b x none su, s => onV (tryV s) fun (body, z, nm, s0, suite) => nm.isNone && coldB c.md && decide (x = z) && glB c.sc z && okNm z && decide (z ∈ c.exis) && ckSs c b body && ckSs { c with md := .hot none } su (s0 :: suite)
def ckSs (c : Ck) : Ss → List Stmt → Bool
  | .nil, l => l.isEmpty
  | .cons a r, x :: l => ckS c a x && ckSs c r l
  | .cons _ _, [] => false
end
theorem folded_of {e : Expr} {env : PySem.Env} {x : Value} (h : notSet e = true) : foldedSetIterable e env x = pure x := by
  cases e <;> first | rfl | cases h
theorem sndI {X : Cx} {c : Ck} {B : Tb} {W : WX} {sd : L2.St → Prop} (C : Cok X c B W sd) {tg : Expr} : ∀ (it : I) (e : Expr), ckI c it e = true → PI X tg e (tI X.K sd W (evI B it)) ∧ ∀ x, foldedSetIterable e X.env x = pure x
  | .seq e, x, h => by
    obtain ⟨h1, h2⟩ := and3 (show (ckE c e x && notSet x) = true from h)
    exact ⟨si_seq (sndE C e x h1).pe, fun _ => folded_of h2⟩
  | .rng2 a b, x, h => by cases x <;> simp [ckI] at h
  | .rng1 e, x, h => by
    cases x <;> first
      | (simp [ckI] at h; done)
      | (rename_i fn l kws pos
         cases fn <;> first
           | (simp [ckI] at h; done)
           | (rename_i r p
              match l, kws, h with
              | [x], [], h =>
                rw [ckI] at h
                obtain ⟨h, h5⟩ := and3 h
                obtain ⟨h, h4⟩ := and3 h
                obtain ⟨h, h3⟩ := and3 h
                obtain ⟨h1, h2⟩ := and3 h
                have e1 := of_decide_eq_true h2
                subst e1
                exact ⟨si_rng1 (C.rng h1) (C.gl _ h3) h4 (sndE C e x h5).pe, fun _ => rfl⟩
              | [], _, h => simp [ckI] at h
              | _ :: _ :: _, _, h => simp [ckI] at h
              | [_], _ :: _, h => simp [ckI] at h))
/-- the same, in a try's body -/
theorem Cok.tr {X : Cx} {c : Ck} {B : Tb} {W W' : WX} {sd : L2.St → Prop} (C : Cok X c B W sd) (hm : coldB c.md = true) {pn : List (Addr × Obj)} {xe : Value → Shared → Prop} (tk : Takes (X.tr pn xe) W') (hp : PassesOwn (model X.prog X.w) X.A X.env xe) : Cok (X.tr pn xe) c B W' sd where
  hN := C.hN
  nd := C.nd
  vis := C.vis
  loc := C.loc
  gl := C.gl
  hu := C.hu
  calm := C.calm
  takes := fun _ => tk
  call := C.call
  callk := C.callk
  bis := C.bis
  isi := C.isi
  sub := C.sub
  set := C.set
  len := C.len
  lcl := C.lcl
  passes := fun _ => hp
  stk := C.stk
  raises := fun y hy => let ⟨⟨a, b, d, e⟩, f⟩ := C.raises y hy; ⟨⟨a, b, d, e⟩, f⟩
  rng := C.rng
  cls := C.cls
  exc := C.exc
  hot := fun e i h => by
    rw [h] at hm
    cases hm
/-- the same, in a suite -/
theorem Cok.suite {X : Cx} {c : Ck} {B : Tb} {W : WX} {sd : L2.St → Prop} (C : Cok X c B W sd) (hm : coldB c.md = true) {n : Str} {i : Nat} {a : Addr} {oe : Obj} {e : Exn} {dd : Option Addr} {pn : List (Addr × Obj)} (hz : Zc (.ref (He.ga X.K e.cls)) dd oe) (hd : ∃ vs, oe.data = .fields vs) (he : e.cls ∈ Xs.names) (hf : e.fs = [] → dd = none) :
    Cok (X.suite a ((a, oe) :: pn)) { c with md := .hot (some (n, i)) } { B with exn := some e } W (fun σ => sd σ ∧ σ[i]? = some (some (.ref a))) where
  hN := C.hN
  nd := C.nd
  vis := C.vis
  loc := C.loc
  gl := C.gl
  hu := C.hu
  calm := fun h => by cases h
  takes := fun h => by cases h
  call := fun h => by cases h
  callk := fun h => by cases h
  bis := C.bis
  isi := C.isi
  sub := C.sub
  set := fun j hj σ v hs => ⟨C.set j (by
    cases q : c.md with
    | cold => rfl
    | hot _ => rw [q] at hm; cases hm) σ v hs.1, by
    have ne : j ≠ i := of_decide_eq_true (show decide (j ≠ i) = true from hj)
    rw [List.getElem?_set_ne ne]
    exact hs.2⟩
  len := fun σ hs => C.len σ hs.1
  lcl := C.lcl
  passes := fun h => by cases h
  stk := fun h => by cases h
  raises := fun y hy => let ⟨⟨a, b, d, e⟩, f⟩ := C.raises y hy; ⟨⟨a, b, d, e⟩, f⟩
  rng := C.rng
  cls := C.cls
  exc := C.exc
  hot := fun n' i' h => by
    cases h
    refine ⟨e, rfl, fun t ht hfs => ?_⟩
    have h0 : dd = none := hf hfs
    subst h0
    obtain ⟨u, v, kv, r, ht2, hk⟩ := C.cls t ht
    have k1 := (hk _ he).1
    have es : B.sub = Xs.sub := C.sub
    refine ⟨a, v, u, fun σ hs => hs.2, r, ht2, fun pins s σ H xs us Q I rr hq => ?_⟩
    obtain ⟨ex, q⟩ := hq
    refine call_isE (C.exc _ he) hz hd pins s σ H xs us Q I rr ⟨v, u, _, ex, fun w rw => ?_, k1, ?_⟩
    · exact kv.eq rw
    · have q' : Q (.bl (B.sub e.cls t)) H := q
      rw [es] at q'
      exact q'
theorem Cok.suite0 {X : Cx} {c : Ck} {B : Tb} {W : WX} {sd : L2.St → Prop} (C : Cok X c B W sd) (hm : coldB c.md = true) {a : Addr} {oe : Obj} {e : Exn} {pn : List (Addr × Obj)} :
    Cok (X.suite a ((a, oe) :: pn)) { c with md := .hot none } { B with exn := some e } W sd where
  hN := C.hN
  nd := C.nd
  vis := C.vis
  loc := C.loc
  gl := C.gl
  hu := C.hu
  calm := fun h => by cases h
  takes := fun h => by cases h
  call := fun h => by cases h
  callk := fun h => by cases h
  bis := C.bis
  isi := C.isi
  sub := C.sub
  set := fun j hj σ v hs => C.set j (by
    cases q : c.md with
    | cold => rfl
    | hot _ => rw [q] at hm; cases hm) σ v hs
  len := C.len
  lcl := C.lcl
  passes := fun h => by cases h
  stk := fun h => by cases h
  raises := fun y hy => let ⟨⟨a, b, d, e⟩, f⟩ := C.raises y hy; ⟨⟨a, b, d, e⟩, f⟩
  rng := C.rng
  cls := C.cls
  exc := C.exc
  hot := fun n' i' h => by cases h
end RI
set_option maxRecDepth 100000
set_option maxHeartbeats 4000000
/-! RM: what the checker of statements lets through keeps what the machine does. -/
namespace RI
open PySem L2 PyProof.Rows
variable [Xs]
theorem names_of {X : Cx} {t : Str} {u : Value} (hg : Gl X t) (hn : okNm t = true) (h : X.mg t = some u ∨ (X.mg t = none ∧ bootBuiltins t = some u ∧ t ≠ "__name__")) : Names X t u := ⟨hg, (okNm_of hn).1, h⟩
mutual
theorem sndS : ∀ (ir : S) (X : Cx) (c : Ck) (B : Tb) (W : WX) (sd : L2.St → Prop), Cok X c B W sd → ∀ s : Stmt, ckS c ir s = true → PS X s (tSt X.K sd W (exS B ir))
  | .asg (.name i) e, X, c, B, W, sd, C, s, h => by
    rw [ckS] at h
    obtain ⟨⟨x, ee⟩, q, g⟩ := onV_of h
    replace h := g
    clear g
    obtain ⟨p, pos, rfl⟩ := asgV_of q
    dsimp only at h
    obtain ⟨h, h5⟩ := and3 h
    obtain ⟨h, h4⟩ := and3 h
    obtain ⟨h, h3⟩ := and3 h
    obtain ⟨h1, h2⟩ := and3 h
    exact ss_asg (by rw [C.hN]; exact C.nd) (by rw [C.hN]; exact of_decide_eq_true h2) (C.loc x h1) (fun σ v hs => C.set i h3 σ _ hs) h4 (sndE C e ee h5).pe
  | .asg (.tup _) _, X, c, B, W, sd, C, s, h => by rw [ckS] at h; cases h
  | .aug _ _ _, X, c, B, W, sd, C, s, h => by rw [ckS] at h; cases h
  | .seti o i e, X, c, B, W, sd, C, s, h => by
    rw [ckS] at h
    obtain ⟨⟨eo, ei, ee⟩, q, g⟩ := onV_of h
    replace h := g
    clear g
    obtain ⟨p, pos, rfl⟩ := setV_of q
    dsimp only at h
    obtain ⟨h, h5⟩ := and3 h
    obtain ⟨h, h4⟩ := and3 h
    obtain ⟨h, h3⟩ := and3 h
    obtain ⟨h1, h2⟩ := and3 h
    exact ss_seti h1 (sndE C o eo h3).pe (sndE C i ei h4).pe (sndE C e ee h5).pe (by
      intro v
      have h2' : plainIxB ei = true := h2
      cases ei <;> first
        | rfl
        | cases h2')
  | .expr e, X, c, B, W, sd, C, s, h => by
    rw [ckS] at h
    obtain ⟨ee, q, g⟩ := onV_of h
    replace h := g
    clear g
    obtain ⟨pos, rfl⟩ := exprV_of q
    obtain ⟨h1, h2⟩ := and3 h
    exact ss_expr h1 (sndE C e _ h2).pe
  | .ret e, X, c, B, W, sd, C, s, h => by
    rw [ckS] at h
    obtain ⟨o, q, g⟩ := onV_of h
    replace h := g
    clear g
    obtain ⟨ee, q2, h⟩ := onV_of h
    subst q2
    obtain ⟨pos, rfl⟩ := retV_of q
    exact ss_ret (sndE C e _ h).pe
  | .retN, X, c, B, W, sd, C, s, h => by
    rw [ckS] at h
    obtain ⟨o, q, g⟩ := onV_of h
    replace h := g
    clear g
    obtain ⟨pos, rfl⟩ := retV_of q
    cases o with
    | some _ => cases h
    | none => exact ss_retN
  | .pass, X, c, B, W, sd, C, s, h => by
    rw [ckS] at h
    obtain ⟨pos, rfl⟩ := passV_0 (of_decide_eq_true h)
    exact ss_pass
  | .brk, X, c, B, W, sd, C, s, h => by
    rw [ckS] at h
    obtain ⟨pos, rfl⟩ := passV_1 (of_decide_eq_true h)
    exact ss_brk
  | .cnt, X, c, B, W, sd, C, s, h => by
    rw [ckS] at h
    obtain ⟨pos, rfl⟩ := passV_2 (of_decide_eq_true h)
    exact ss_cnt
  | .ife k a b, X, c, B, W, sd, C, s, h => by
    rw [ckS] at h
    obtain ⟨⟨ek, la, lb⟩, q, g⟩ := onV_of h
    replace h := g
    clear g
    obtain ⟨pos, rfl⟩ := ifV_of q
    dsimp only at h
    obtain ⟨h, h4⟩ := and3 h
    obtain ⟨h, h3⟩ := and3 h
    obtain ⟨h1, h2⟩ := and3 h
    exact ss_ife ((sndE C k _ h2).pt h1) (sndSs a X c B W sd C _ h3) (sndSs b X c B W sd C _ h4)
  | .for (.name i) it b, X, c, B, W, sd, C, s, h => by
    rw [ckS] at h
    obtain ⟨⟨x, ei, l⟩, q, g⟩ := onV_of h
    replace h := g
    clear g
    obtain ⟨p, pos, rfl⟩ := forV_of q
    dsimp only at h
    obtain ⟨h, h6⟩ := and3 h
    obtain ⟨h, h5⟩ := and3 h
    obtain ⟨h, h4⟩ := and3 h
    obtain ⟨h, h3⟩ := and3 h
    obtain ⟨h1, h2⟩ := and3 h
    obtain ⟨q1, q2⟩ := sndI C it ei h5
    exact ss_for (C.passes h1) (C.calm h1) (by rw [C.hN]; exact C.nd) (by rw [C.hN]; exact of_decide_eq_true h3) (C.loc _ h2) (fun σ v hs => C.set i h4 σ _ hs) q2 q1 (sndSs b X c B W sd C _ h6)
  | .for (.tup _) _ _, X, c, B, W, sd, C, s, h => by rw [ckS] at h; cases h
  | .whl k b, X, c, B, W, sd, C, s, h => by
    rw [ckS] at h
    obtain ⟨⟨ek, l⟩, q, g⟩ := onV_of h
    replace h := g
    clear g
    obtain ⟨pos, rfl⟩ := whlV_of q
    dsimp only at h
    obtain ⟨h, h4⟩ := and3 h
    obtain ⟨h, h3⟩ := and3 h
    obtain ⟨h1, h2⟩ := and3 h
    exact ss_whl (C.passes h1) ((sndE C k _ h3).pt h2) (sndSs b X c B W sd C _ h4)
  | .raise y .nil, X, c, B, W, sd, C, s, h => by
    rw [ckS] at h
    obtain ⟨z, q, g⟩ := onV_of h
    replace h := g
    clear g
    obtain ⟨p1, p2, p3, rfl⟩ := raiseV_of q
    obtain ⟨h, h5⟩ := and3 h
    obtain ⟨h, h4⟩ := and3 h
    obtain ⟨h, h3⟩ := and3 h
    obtain ⟨h1, h2⟩ := and3 h
    have e1 := of_decide_eq_true h2
    subst e1
    obtain ⟨q1, q2⟩ := C.raises _ (of_decide_eq_true h5)
    exact ss_raise (C.calm h1) (C.takes h1) q1 q2 (C.gl _ h3) (okNm_of h4).1
  | .raise _ (.cons _ _), X, c, B, W, sd, C, s, h => by rw [ckS] at h; cases h
  | .try b x (some i) su, X, c, B, W, sd, C, s, h => by
    rw [ckS] at h
    obtain ⟨⟨body, z, nm, s0, suite⟩, q, g⟩ := onV_of h
    replace h := g
    clear g
    obtain ⟨p1, p2, p3, rfl⟩ := tryV_of q
    dsimp only at h
    obtain ⟨n, q2, h⟩ := onV_of h
    subst q2
    obtain ⟨h, h9⟩ := and3 h
    obtain ⟨h, h8⟩ := and3 h
    obtain ⟨h, h7⟩ := and3 h
    obtain ⟨h, h6⟩ := and3 h
    obtain ⟨h, h5⟩ := and3 h
    obtain ⟨h, h4⟩ := and3 h
    obtain ⟨h, h3⟩ := and3 h
    obtain ⟨h1, h2⟩ := and3 h
    have e1 := of_decide_eq_true h2
    subst e1
    obtain ⟨u, v, kv, r, ht, hk⟩ := C.cls _ (of_decide_eq_true h5)
    obtain ⟨k1, k2⟩ := C.stk h1
    have hi : X.N[i]? = some n := by rw [C.hN]; exact of_decide_eq_true h7
    refine ss_try_as k1 k2 (by rw [C.hN]; exact C.nd) hi (C.lcl _ h6) (names_of (C.gl _ h3) h4 ht) (fun y hy => by rw [C.sub]; exact (hk y hy).2) (C.takes h1) (C.set i (by cases q : c.md with
      | cold => rfl
      | hot _ => rw [q] at h1; cases h1)) (fun σ hs A H ρ rl => ?_)
      (fun W' pn xe tk hp => sndSs b (X.tr pn xe) c B W' sd (C.tr h1 tk hp) body h8)
      (fun a oe e dd pn hz hd he hf => sndSs su (X.suite a ((a, oe) :: pn)) { c with md := .hot (some (n, i)) } { B with exn := some e } W (fun σ => sd σ ∧ σ[i]? = some (some (.ref a))) (C.suite h1 hz hd he hf) (s0 :: suite) h9)
    rw [C.len σ hs]
    exact (List.getElem?_eq_some_iff.mp (of_decide_eq_true h7)).1
  | .try b x none su, X, c, B, W, sd, C, s, h => by
    rw [ckS] at h
    obtain ⟨⟨body, z, nm, s0, suite⟩, q, g⟩ := onV_of h
    replace h := g
    clear g
    obtain ⟨p1, p2, p3, rfl⟩ := tryV_of q
    dsimp only at h
    obtain ⟨h, h8⟩ := and3 h
    obtain ⟨h, h7⟩ := and3 h
    obtain ⟨h, h6⟩ := and3 h
    obtain ⟨h, h5⟩ := and3 h
    obtain ⟨h, h4⟩ := and3 h
    obtain ⟨h, h3⟩ := and3 h
    obtain ⟨h1, h2⟩ := and3 h
    cases nm with
    | some _ => cases h1
    | none =>
      have e1 := of_decide_eq_true h3
      subst e1
      obtain ⟨u, v, kv, r, ht, hk⟩ := C.cls _ (of_decide_eq_true h6)
      obtain ⟨k1, k2⟩ := C.stk h2
      exact ss_try_only k1 k2 (names_of (C.gl _ h4) h5 ht) (fun y hy => by rw [C.sub]; exact (hk y hy).2) (C.takes h2)
        (fun W' pn xe tk hp => sndSs b (X.tr pn xe) c B W' sd (C.tr h2 tk hp) body h7)
        (fun a oe e pn => sndSs su (X.suite a ((a, oe) :: pn)) { c with md := .hot none } { B with exn := some e } W sd (C.suite0 h2) (s0 :: suite) h8)
theorem sndSs : ∀ (ir : Ss) (X : Cx) (c : Ck) (B : Tb) (W : WX) (sd : L2.St → Prop), Cok X c B W sd → ∀ l : List Stmt, ckSs c ir l = true → PSs X l (tSt X.K sd W (exSs B ir))
  | .nil, X, c, B, W, sd, C, l, h => by
    cases l with
    | nil => exact ss_nil
    | cons _ _ => rw [ckSs] at h; cases h
  | .cons a r, X, c, B, W, sd, C, l, h => by
    cases l with
    | nil => rw [ckSs] at h; cases h
    | cons x l =>
      rw [ckSs] at h
      obtain ⟨h1, h2⟩ := and3 h
      exact ss_cons (sndS a X c B W sd C x h1) (sndSs r X c B W sd C l h2)
end
end RI
set_option maxRecDepth 100000
set_option maxHeartbeats 4000000
/-! RN: the program's defs as a table; each keeps the promise that the language reads off its body. -/
namespace RI
open PySem L2 PyProof.Rows
/-- a def: its parameters, its names by slot, its last parameters' defaults, the calls by keywords, its body -/
structure DefI where
  name : Str
  ps : List Str
  N : List Str
  dfl : List D := []
  kws : List (Nat × List Str) := []
  ir : Ss
def DefI.lo (d : DefI) : Nat := d.ps.length - d.dfl.length
def DefI.fill (d : DefI) (es : List D) : List D := es ++ d.dfl.drop (es.length - d.lo)
/-- where a parameter's value comes from: the j-th keyword, the j-th default -/
def kwPlan (ps : List Str) (lo n : Nat) (ks : List Str) : List (Bool × Nat) := (ps.drop n).zipIdx.map fun p => match ks.findIdx? (· == p.1) with
  | some j => (true, j)
  | none => (false, n + p.2 - lo)
def byPlan {α : Type} : List (Bool × Nat) → List α → List α → List α
  | [], _, _ => []
  | (true, j) :: pl, its, ws => (match ws[j]? with
    | some a => a :: byPlan pl its ws
    | none => byPlan pl its ws)
  | (false, j) :: pl, its, ws => (match its[j]? with
    | some a => a :: byPlan pl its ws
    | none => byPlan pl its ws)
def kwAll {α : Type} (ps : List Str) (lo : Nat) (ks : List Str) (us its ws : List α) : List α := us ++ byPlan (kwPlan ps lo us.length ks) its ws
theorem byPlan_vals {vs ds : List V} {us its : List Value} (r : Vals vs us) (q : Vals ds its) : ∀ pl : List (Bool × Nat), Vals (byPlan pl vs ds) (byPlan pl us its)
  | [] => .nil
  | (true, j) :: pl => by
    unfold byPlan
    cases e : ds[j]? with
    | none =>
      have e2 : its[j]? = none := by
        rw [List.getElem?_eq_none_iff] at e ⊢
        rw [← q.length]
        exact e
      rw [e2]
      exact byPlan_vals r q pl
    | some a =>
      obtain ⟨u, e2, rr⟩ := q.get e
      rw [e2]
      exact .cons rr (byPlan_vals r q pl)
  | (false, j) :: pl => by
    unfold byPlan
    cases e : vs[j]? with
    | none =>
      have e2 : us[j]? = none := by
        rw [List.getElem?_eq_none_iff] at e ⊢
        rw [← r.length]
        exact e
      rw [e2]
      exact byPlan_vals r q pl
    | some a =>
      obtain ⟨u, e2, rr⟩ := r.get e
      rw [e2]
      exact .cons rr (byPlan_vals r q pl)
theorem kwAll_vals {ps ks : List Str} {lo : Nat} {vs ds zs : List V} {us its ws : List Value} (r : Vals vs us) (q : Vals ds its) (z : Vals zs ws) : Vals (kwAll ps lo ks vs ds zs) (kwAll ps lo ks us its ws) := by
  unfold kwAll
  rw [r.length]
  exact r.append (byPlan_vals q z _)
theorem byPlan_rvs {K : PySem.W.Frag} {A : List Addr} {H : Hp} {vs ds : List V} {us its : List D} (r : RVs K A H vs us) (q : RVs K A H ds its) : ∀ pl : List (Bool × Nat), RVs K A H (byPlan pl vs ds) (byPlan pl us its)
  | [] => .nil
  | (true, j) :: pl => by
    unfold byPlan
    cases e : its[j]? with
    | none =>
      have e2 : ds[j]? = none := by
        rw [List.getElem?_eq_none_iff] at e ⊢
        rw [q.length]
        exact e
      rw [e2]
      exact byPlan_rvs r q pl
    | some a =>
      obtain ⟨u, e2, rr⟩ := q.get e
      rw [e2]
      exact .cons rr (byPlan_rvs r q pl)
  | (false, j) :: pl => by
    unfold byPlan
    cases e : us[j]? with
    | none =>
      have e2 : vs[j]? = none := by
        rw [List.getElem?_eq_none_iff] at e ⊢
        rw [r.length]
        exact e
      rw [e2]
      exact byPlan_rvs r q pl
    | some a =>
      obtain ⟨u, e2, rr⟩ := r.get e
      rw [e2]
      exact .cons rr (byPlan_rvs r q pl)
theorem kwAll_rvs {K : PySem.W.Frag} {A : List Addr} {H : Hp} {ps ks : List Str} {lo : Nat} {vs ds zs : List V} {us its ws : List D} (r : RVs K A H vs us) (q : RVs K A H ds its) (z : RVs K A H zs ws) : RVs K A H (kwAll ps lo ks vs ds zs) (kwAll ps lo ks us its ws) := by
  unfold kwAll
  rw [r.length]
  exact r.append (byPlan_rvs q z _)
variable [Xs]
/-- flat values stand for themselves -/
theorem RV.flat {K : PySem.W.Frag} {A : List Addr} {H : Hp} : ∀ {d : D}, flatD d = true → RV K A H (toV d) d
  | .non, _ => .non
  | .bl b, _ => .bl b
  | .int i, _ => .int i
  | .str x, _ => .str x
theorem RVs.flat {K : PySem.W.Frag} {A : List Addr} {H : Hp} : ∀ {ds : List D}, ds.all flatD = true → RVs K A H (ds.map toV) ds
  | [], _ => .nil
  | d :: ds, h => by
    rw [List.all_cons] at h
    obtain ⟨h1, h2⟩ := and3 h
    exact .cons (RV.flat h1) (RVs.flat h2)
/-- what a def computes: k calls deep at most -/
noncomputable def runD (T : List DefI) : Nat → DefI → List D → M D
  | 0, _, _ => badM
  | k + 1, d, ds => runFd
    { call := fun f es => (match T.find? (fun e => e.name == f) with
        | some e => runD T k e (e.fill es)
        | none => badM)
      callk := fun f ks es ws => (match T.find? (fun e => e.name == f) with
        | some e => runD T k e (kwAll e.ps e.lo ks es e.dfl ws)
        | none => badM)
      gl := fun _ => none
      sub := Xs.sub
      exn := none } ⟨d.ps.length, d.N.length, d.ir⟩ ds
/-- what a body sees, k deep -/
noncomputable def tb (T : List DefI) (k : Nat) : Tb :=
  { call := fun f es => (match T.find? (fun e => e.name == f) with
      | some e => runD T k e (e.fill es)
      | none => badM)
    callk := fun f ks es ws => (match T.find? (fun e => e.name == f) with
      | some e => runD T k e (kwAll e.ps e.lo ks es e.dfl ws)
      | none => badM)
    gl := fun _ => none
    sub := Xs.sub
    exn := none }
theorem runD_succ (T : List DefI) (k : Nat) (d : DefI) : runD T (k + 1) d = runFd (tb T k) ⟨d.ps.length, d.N.length, d.ir⟩ := rfl
/-- what the module holds besides its defs -/
structure Glb where
  bis : List Bi
  isi : Bool
  exis : List Str
  raises : List Str
  rng : Bool
def ckOf (T : List DefI) (G : Glb) (d : DefI) (sc : Scope) : Ck where
  N := d.N
  sc := sc
  calls := T.flatMap fun e => (List.range (e.dfl.length + 1)).map fun i => (e.name, e.lo + i)
  callks := T.flatMap fun e => e.kws.map fun p => (e.name, p.1, p.2)
  bis := G.bis
  isi := G.isi
  exis := G.exis
  raises := G.raises
  rng := G.rng
  md := .cold
structure GlbAt (K : PySem.W.Frag) (mg : Str → Option Value) (G : Glb) : Prop where
  bis : ∀ f ∈ G.bis, if f.imp = true then mg f.nm = some f.val else mg f.nm = none
  isi : G.isi = true → mg "isinstance" = none ∧ ∀ t : Ty, mg t.snm = none
  exis : ∀ t ∈ G.exis, ∃ (u : Value) (v : V), ClsV v u ∧ RelV v u ∧ (mg t = some u ∨ (mg t = none ∧ bootBuiltins t = some u ∧ t ≠ "__name__")) ∧
    ∀ y ∈ Xs.names, PySem.W.kitOne K (.ref (He.ga K y)) u = some (Xs.sub y t) ∧ PySem.W.exmOne K (.ref (He.ga K y)) u = some (Xs.sub y t)
  raises : ∀ y ∈ G.raises, (mg y = some (.ref (He.ga K y)) ∧ PySem.W.excIn K (He.ga K y) He.veBase "ValueError.__new__" = true ∧ PySem.W.keepIn K (.ref (He.ga K y)) = true ∧
    PySem.W.subIn K (.ref (He.ga K y)) (.type "BaseException") = some true ∧ PySem.W.typeIn K (.ref (He.ga K y)) = some (.type "type")) ∧ y ∈ Xs.names
  rng : G.rng = true → mg "range" = none
  exc : ∀ y ∈ Xs.names, ExcC K (He.ga K y)
/-- a def as it stands in the module -/
structure DefAt (K : PySem.W.Frag) (mg : Str → Option Value) (T : List DefI) (G : Glb) (d : DefI) : Prop where
  flat : d.dfl.all flatD = true
  le : d.dfl.length ≤ d.ps.length
  ex : ∃ (f : Addr) (fd : FuncData) (x qual : Str) (params : Arguments) (body : List Stmt) (sc : Scope), mg d.name = some (.ref f) ∧ FunD K x qual params body sc (d.dfl.map toV) [] f fd ∧ FnScope d.N d.ps sc ∧
    (∀ i, i ≤ d.dfl.length → ∃ ds, Vals ((d.dfl.map toV).drop i) ds ∧ Binds K fd d.ps ds) ∧
    (∀ p ∈ d.kws, ∃ its : List Value, KBn K fd d.ps p.1 p.2 (fun us ws => kwAll d.ps d.lo p.2 us its ws) (fun vs zs => kwAll d.ps d.lo p.2 vs (d.dfl.map toV) zs)) ∧
    ckSs (ckOf T G d sc) d.ir body = true
/-- what a def promises -/
def spOf (K : PySem.W.Frag) (n : Nat) (m : List D → M D) : Sp := fun vs H Q E => ∃ (A : List Addr) (st : Store) (ds : List D), RS K A H st ∧ RVs K A H vs ds ∧ ds.length = n ∧ Post K (RV K) A H E Q (m ds st)
theorem visB_of {sc : Scope} {x : Str} (h : visB sc x = true) : Vis sc x := by
  unfold visB at h
  unfold Vis
  split at h <;> simp_all
theorem locB_of {sc : Scope} {x : Str} (h : locB sc x = true) : L2.Loc sc x := by
  unfold locB at h
  unfold L2.Loc
  split at h <;> simp_all
theorem glB_of {sc : Scope} {x : Str} (h : glB sc x = true) : sc.names.lookup x = some .globalImplicit := by
  unfold glB at h
  split at h <;> simp_all
theorem lclB_of {sc : Scope} {x : Str} (h : lclB sc x = true) : sc.names.lookup x = some .local := by
  unfold lclB at h
  split at h <;> simp_all
/-- the first of that name -/
def uniq (T : List DefI) : Prop := ∀ d ∈ T, T.find? (fun e => e.name == d.name) = some d
theorem start_len {N : List Str} {vs : List V} (h : vs.length ≤ N.length) : (L2.start N vs).length = N.length := by
  unfold L2.start
  rw [List.length_append, List.length_map, List.length_replicate]
  omega
theorem rsl_start {K : PySem.W.Frag} {A : List Addr} {H : Hp} {N : List Str} {vs : List V} {ds : List D} (r : RVs K A H vs ds) : RSl K A H (L2.start N vs) (startD N.length ds) := by
  have l := r.length
  unfold L2.start startD
  refine ⟨by simp [l], fun i d h => ?_⟩
  by_cases hi : i < ds.length
  · rw [List.getElem?_append_left (by simpa using hi), List.getElem?_map] at h
    cases e : ds[i]? with
    | none => rw [e] at h; cases h
    | some y =>
      rw [e] at h
      cases h
      obtain ⟨v, e2, rv⟩ := r.get e
      refine ⟨v, ?_, rv⟩
      rw [List.getElem?_append_left (by simpa [l] using hi), List.getElem?_map, e2]
      rfl
  · rw [List.getElem?_append_right (by simpa using hi), List.getElem?_replicate] at h
    split at h <;> cases h
/-- a body's end is the def's -/
theorem posts_end {K : PySem.W.Frag} {sd : L2.St → Prop} {W : WX} {E : XK} {Q : VK} {A : List Addr} {H : Hp} {r : Fl} (hW : W = fun cls d _ H => E cls d H)
    (h : Post K (RV K) A H E Q (match r with
      | .nx _ s1 => .ok .non s1
      | .rt d s1 => .ok d s1
      | .ex x _ s1 => .ex x s1
      | _ => .bad)) : PostS K sd W { nx := fun _ H' => Q .non H', rt := Q } A H r := by
  subst hW
  cases r with
  | nx ρ s => exact fun σ' H' A' nx hs rs rl => h .non H' A' nx rs .non
  | rt d s => exact fun v H' A' nx rs rv => h v H' A' nx rs rv
  | bk ρ s => exact h.elim
  | ct ρ s => exact h.elim
  | ex x ρ s => exact fun σ' H' A' c dd nx hs rs rl rx => h H' A' c dd nx rs rx
  | bad => exact h.elim
section
variable {P : Program} {w : World} {K : PySem.W.Frag} {mg : Str → Option Value} {base : Heap} {T : List DefI} {G : Glb}
theorem fnAt_of {k : Nat} {d : DefI} {Ar : Around} (un : uniq T) (hd : d ∈ T) (D : DefAt K mg T G d) (hr : Room k Ar)
    (ih : ∀ f fd x qual params body sc, mg d.name = some (.ref f) → FunD K x qual params body sc (d.dfl.map toV) [] f fd → FnScope d.N d.ps sc → ckSs (ckOf T G d sc) d.ir body = true → FnOk P w K mg base (L2.CX P w) k f fd d.ps (spOf K d.ps.length (runD T k d)))
    {n : Nat} (h1 : d.lo ≤ n) (h2 : n ≤ d.lo + d.dfl.length) : FnAt P w K mg base Ar ((tb T k).call d.name) d.name n := by
  obtain ⟨f, fd, x, qual, params, body, sc, hm, F, S, hb, hk, hc⟩ := D.ex
  obtain ⟨ds, v1, b1⟩ := hb (n - d.lo) (by omega)
  refine ⟨k, f, fd, d.ps, _, ds, _, hm, F.kp, ih f fd x qual params body sc hm F S hc, hr, b1, v1, fun A st H vs es Q E rs rv hl P => ?_⟩
  have e : (tb T k).call d.name es = runD T k d (d.fill es) := by
    show (match T.find? (fun e => e.name == d.name) with
      | some e => runD T k e (e.fill es)
      | none => badM) = _
    rw [un d hd]
  rw [e] at P
  have fl : RVs K A H ((d.dfl.map toV).drop (n - d.lo)) (d.dfl.drop (n - d.lo)) := (RVs.flat D.flat).drop _
  refine ⟨A, st, d.fill es, rs, ?_, ?_, P⟩
  · unfold DefI.fill
    rw [hl]
    exact rv.append fl
  · have l1 := D.le
    unfold DefI.fill
    rw [List.length_append, List.length_drop, hl]
    unfold DefI.lo at h1 h2 ⊢
    omega
theorem fnAtK_of {k : Nat} {d : DefI} {Ar : Around} (un : uniq T) (hd : d ∈ T) (D : DefAt K mg T G d) (hr : Room k Ar)
    (ih : ∀ f fd x qual params body sc, mg d.name = some (.ref f) → FunD K x qual params body sc (d.dfl.map toV) [] f fd → FnScope d.N d.ps sc → ckSs (ckOf T G d sc) d.ir body = true → FnOk P w K mg base (L2.CX P w) k f fd d.ps (spOf K d.ps.length (runD T k d)))
    {n : Nat} {ks : List Str} (h : (n, ks) ∈ d.kws) : FnAtK P w K mg base Ar ((tb T k).callk d.name ks) d.name n ks := by
  obtain ⟨f, fd, x, qual, params, body, sc, hm, F, S, _, hk, hc⟩ := D.ex
  obtain ⟨its, KB⟩ := hk _ h
  refine ⟨k, f, fd, d.ps, _, _, _, hm, F.kp, ih f fd x qual params body sc hm F S hc, hr, KB, fun A st H vs zs es fs Q E rs rv rz hl hl2 P => ?_⟩
  have e : (tb T k).callk d.name ks es fs = runD T k d (kwAll d.ps d.lo ks es d.dfl fs) := by
    show (match T.find? (fun e => e.name == d.name) with
      | some e => runD T k e (kwAll e.ps e.lo ks es e.dfl fs)
      | none => badM) = _
    rw [un d hd]
  rw [e] at P
  have rr := kwAll_rvs (ps := d.ps) (ks := ks) (lo := d.lo) rv (RVs.flat (K := K) (A := A) (H := H) D.flat) rz
  by_cases hlen : (kwAll d.ps d.lo ks es d.dfl fs).length = d.ps.length
  · exact ⟨A, st, _, rs, rr, hlen, P⟩
  · cases k with
    | zero => exact P.elim
    | succ k =>
      rw [runD_succ] at P
      unfold runFd at P
      rw [if_neg hlen] at P
      exact P.elim
/-- every def of the table keeps its promise, k calls deep -/
theorem tab_ok (un : uniq T) (hG : GlbAt K mg G) (hT : ∀ d ∈ T, DefAt K mg T G d) : ∀ (k : Nat) (d : DefI), d ∈ T → ∀ f fd x qual params body sc, mg d.name = some (.ref f) → FunD K x qual params body sc (d.dfl.map toV) [] f fd → FnScope d.N d.ps sc → ckSs (ckOf T G d sc) d.ir body = true →
    FnOk P w K mg base (L2.CX P w) k f fd d.ps (spOf K d.ps.length (runD T k d))
  | 0, d, hd, f, fd, x, qual, params, body, sc, hm, F, S, hc => ⟨fun vs H Q E ⟨A, st, ds, _, rv, hl, _⟩ => rv.length.trans hl, fun _ _ _ _ _ _ _ _ _ _ _ _ _ ⟨_, _, _, _, _, _, P⟩ => P.elim⟩
  | k + 1, d, hd, f, fd, x, qual, params, body, sc, hm, F, S, hc => by
    have ih := tab_ok un hG hT k
    have hpl : d.ps.length ≤ d.N.length := by
      have := congrArg List.length S.pre
      rw [List.length_take] at this
      omega
    refine F.ok S (fun vs H Q E ⟨A, st, ds, _, rv, hl, _⟩ => rv.length.trans hl) (fun cdv A outer s H vs Q E hr h => ?_)
    have C : Cok (cxOf (L2.CX P w) P w K mg base d.N qual sc f cdv A outer s H E) (ckOf T G d sc) (tb T k) (fun cls d _ H => E cls d H) (fun σ => σ.length = d.N.length) := by
      refine
       { hN := rfl, nd := S.nd, vis := fun x h => visB_of h, loc := fun x h => ⟨locB_of h, .inl rfl⟩, gl := fun x h => glB_of h, hu := ?_, calm := fun _ => rfl, takes := fun _ => takes_of rfl rfl rfl rfl, call := fun _ x n hx => ?_, callk := fun _ x n ks hx => ?_,
         bis := fun f hf => hG.bis f hf, isi := hG.isi, sub := rfl, set := fun j _ σ v hs => by rw [List.length_set]; exact hs, len := fun σ hs => hs, lcl := fun x h => lclB_of h, passes := fun _ => passes_of rfl, stk := fun _ => ⟨rfl, rfl⟩,
         raises := fun y hy => ?_, rng := hG.rng, cls := fun t ht => hG.exis t ht, exc := hG.exc, hot := fun e i h => by cases h }
      · have := hr.un
        show (A.deeper _).units + 64 < cLine
        omega
      · obtain ⟨e, he, hx⟩ := List.mem_flatMap.mp hx
        obtain ⟨i, hi, hx⟩ := List.mem_map.mp hx
        cases hx
        rw [List.mem_range] at hi
        exact fnAt_of un he (hT e he) hr (fun f fd x qual params body sc hm F S hc => ih e he f fd x qual params body sc hm F S hc) (Nat.le_add_right _ _) (by omega)
      · obtain ⟨e, he, hx⟩ := List.mem_flatMap.mp hx
        obtain ⟨p, hp, hx⟩ := List.mem_map.mp hx
        cases hx
        exact fnAtK_of un he (hT e he) hr (fun f fd x qual params body sc hm F S hc => ih e he f fd x qual params body sc hm F S hc) hp
      · obtain ⟨⟨a, b, c, e, g⟩, z⟩ := hG.raises y hy
        exact ⟨⟨a, b, c, raises_own e g⟩, z⟩
    obtain ⟨A1, st, ds, rs, rv, hl, P⟩ := h
    refine ⟨_, sndSs d.ir _ _ _ _ _ C body hc, A1, st, startD d.N.length ds, start_len (by rw [rv.length, hl]; exact hpl), rs, rsl_start rv, posts_end rfl ?_⟩
    rw [runD_succ] at P
    unfold runFd at P
    rw [if_pos hl] at P
    exact P
end
end RI
set_option maxRecDepth 100000
set_option maxHeartbeats 4000000
/-! RO: the module's top: what it holds, told by one Bool; the law's def at the end. -/
namespace RI
open PySem L2 PyProof.Rows
/-! ### a Hook with one more Bool -/
abbrev AlB : Type := He.AlD × Bool
def obsB (n : Nat) (fa : List He.Fa) (fn : List He.DefD) (ex : PySem.W.Frag → Bool) (g : Addr → Option Obj) : AlB := (He.obsD fa fn (He.frG g (He.asD g n)), ex (He.frG g (He.asD g n)))
def hookB (n : Nat) (fa : List He.Fa) (fn : List He.DefD) (ex : PySem.W.Frag → Bool) : PySem.W.Hook where
  α := AlB
  obs := fun s => obsB n fa fn ex s.heap.get?
  val := fun _ => (He.valD fn, true)
  says := fun _ h => ∃ K : PySem.W.Frag, K.In h ∧ He.SaysD fa fn K ∧ ex K = true
  of := fun _ _ e => ⟨_, He.frG_in, congrArg (fun z : AlB => z.1) e, congrArg (fun z : AlB => z.2) e⟩
  keeps := fun _ _ _ ⟨K, hK, c⟩ k => ⟨K, PySem.W.Frag.In.keeps hK k, c⟩
theorem obsB_eq {n : Nat} {fa : List He.Fa} {fn : List He.DefD} {ex : PySem.W.Frag → Bool} {g : Addr → Option Obj} {s : Shared} (h : ∀ a, g a = s.heap.get? a) : obsB n fa fn ex g = (hookB n fa fn ex).obs s := by
  have e : g = s.heap.get? := funext h
  rw [e] <;> rfl
/-! ### what the module holds, by a Bool -/
def nsB (K : PySem.W.Frag) (x : Str) (o : Option Value) : Bool := He.eqO (PySem.W.nsIn K mainGlobals x) (some o)
def excCB (K : PySem.W.Frag) (D : Addr) : Bool :=
  He.eqO (PySem.W.findIn K (.ref D) "__getattribute__") (some (some (.builtin "BaseException.__getattribute__"))) &&
  (He.eqO (PySem.W.findIn K (.ref D) "__getattr__") (some none) &&
  (decide (PySem.W.subIn K (.ref D) (.type "BaseException") = some true) &&
  (PySem.W.hasDictIn K D &&
  (He.eqO (PySem.W.findIn K (.ref D) "__class__") (some (some (.builtin "object.__class__"))) &&
  (He.eqO (PySem.W.specialIn K (.builtin "object.__class__") "__get__") (some (some (.builtin "getset_descriptor.__get__"))) &&
  (decide (PySem.W.takesIn K (.builtin "object.__class__") = some true) &&
  decide (PySem.W.mroIn K D (.type "object") = some true)))))))
theorem excCB_ok {K : PySem.W.Frag} {D : Addr} (h : excCB K D = true) : ExcC K D := by
  unfold excCB at h
  obtain ⟨h1, h⟩ := He.ba h
  obtain ⟨h2, h⟩ := He.ba h
  obtain ⟨h3, h⟩ := He.ba h
  obtain ⟨h4, h⟩ := He.ba h
  obtain ⟨h5, h⟩ := He.ba h
  obtain ⟨h6, h⟩ := He.ba h
  obtain ⟨h7, h8⟩ := He.ba h
  exact ⟨He.eqO_ok h1, He.eqO_ok h2, of_decide_eq_true h3, h4, He.eqO_ok h5, He.eqO_ok h6, of_decide_eq_true h7, of_decide_eq_true h8⟩
def allTy : List Ty := [.int, .bool, .str, .tuple, .list, .dict]
theorem mem_allTy (t : Ty) : t ∈ allTy := by cases t <;> decide
/-- built-in exception classes that a program names -/
def bltX : List (Str × String) := [("ValueError", "ValueError"), ("Exception", "Exception"), ("TypeError", "TypeError"), ("KeyError", "KeyError"), ("IndexError", "IndexError")]
theorem bltX_ok : ∀ p ∈ bltX, bootBuiltins p.1 = some (.type p.2) ∧ p.1 ≠ "__name__" := by decide +kernel
def clsU (K : PySem.W.Frag) (t : Str) : Value := match bltX.lookup t with
  | some n => .type n
  | none => .ref (He.ga K t)
variable [Xs]
def glbB (G : Glb) (K : PySem.W.Frag) : Bool :=
  (G.bis.all fun f => nsB K f.nm (if f.imp then some f.val else none)) &&
  ((!G.isi || (nsB K "isinstance" none && allTy.all fun t => nsB K t.snm none)) &&
  ((G.exis.all fun t => nsB K t (match bltX.lookup t with
      | some _ => none
      | none => some (.ref (He.ga K t))) && Xs.names.all fun y => decide (PySem.W.kitOne K (.ref (He.ga K y)) (clsU K t) = some (Xs.sub y t)) && decide (PySem.W.exmOne K (.ref (He.ga K y)) (clsU K t) = some (Xs.sub y t))) &&
  ((G.raises.all fun y => nsB K y (some (.ref (He.ga K y))) && (PySem.W.excIn K (He.ga K y) He.veBase "ValueError.__new__" && (PySem.W.keepIn K (.ref (He.ga K y)) && (decide (PySem.W.subIn K (.ref (He.ga K y)) (.type "BaseException") = some true) && (decide (PySem.W.typeIn K (.ref (He.ga K y)) = some (.type "type")) && decide (y ∈ Xs.names)))))) &&
  ((!G.rng || nsB K "range" none) &&
  Xs.names.all fun y => excCB K (He.ga K y)))))
theorem nsB_some {K : PySem.W.Frag} {h : Heap} {mg : Str → Option Value} {x : Str} {v : Value} (X : K.In h) (G : h.Ns mainGlobals mg) (c : nsB K x (some v) = true) : mg x = some v := PySem.W.mg_of X G (He.eqO_ok c)
theorem nsB_none {K : PySem.W.Frag} {h : Heap} {mg : Str → Option Value} {x : Str} (X : K.In h) (G : h.Ns mainGlobals mg) (c : nsB K x none = true) : mg x = none := PySem.W.mg_none_of X G (He.eqO_ok c)
theorem glbB_ok {K : PySem.W.Frag} {h : Heap} {mg : Str → Option Value} {G : Glb} (X : K.In h) (g : h.Ns mainGlobals mg) (c : glbB G K = true) : GlbAt K mg G := by
  unfold glbB at c
  obtain ⟨c1, c⟩ := He.ba c
  obtain ⟨c2, c⟩ := He.ba c
  obtain ⟨c3, c⟩ := He.ba c
  obtain ⟨c4, c⟩ := He.ba c
  obtain ⟨c5, c6⟩ := He.ba c
  refine ⟨fun f hf => ?_, fun hi => ?_, fun t ht => ?_, fun y hy => ?_, fun hr => ?_, fun y hy => excCB_ok (List.all_eq_true.mp c6 y hy)⟩
  · have q := List.all_eq_true.mp c1 f hf
    by_cases e : f.imp = true
    · rw [if_pos e] at q ⊢
      exact nsB_some X g q
    · rw [if_neg e] at q ⊢
      exact nsB_none X g q
  · rw [hi] at c2
    obtain ⟨a, b⟩ := He.ba (show (nsB K "isinstance" none && allTy.all fun t => nsB K t.snm none) = true from c2)
    exact ⟨nsB_none X g a, fun t => nsB_none X g (List.all_eq_true.mp b t (mem_allTy t))⟩
  · obtain ⟨a, b⟩ := He.ba (List.all_eq_true.mp c3 t ht)
    have b' : ∀ y ∈ Xs.names, PySem.W.kitOne K (.ref (He.ga K y)) (clsU K t) = some (Xs.sub y t) ∧ PySem.W.exmOne K (.ref (He.ga K y)) (clsU K t) = some (Xs.sub y t) := fun y hy => by
      obtain ⟨p, q⟩ := He.ba (List.all_eq_true.mp b y hy)
      exact ⟨of_decide_eq_true p, of_decide_eq_true q⟩
    unfold clsU at b'
    cases e : bltX.lookup t with
    | none =>
      rw [e] at a b'
      exact ⟨_, .ref (He.ga K t), .own _, rfl, .inl (nsB_some X g a), b'⟩
    | some n =>
      rw [e] at a b'
      obtain ⟨k1, k2⟩ := bltX_ok _ (PySem.mem_of_lookup e)
      exact ⟨_, .ty n, .ty n, rfl, .inr ⟨nsB_none X g a, k1, k2⟩, b'⟩
  · obtain ⟨a, b⟩ := He.ba (List.all_eq_true.mp c4 y hy)
    obtain ⟨b1, b⟩ := He.ba b
    obtain ⟨b2, b⟩ := He.ba b
    obtain ⟨b3, b⟩ := He.ba b
    obtain ⟨b4, b5⟩ := He.ba b
    exact ⟨⟨nsB_some X g a, b1, b2, of_decide_eq_true b3, of_decide_eq_true b4⟩, of_decide_eq_true b5⟩
  · rw [hr] at c5
    exact nsB_none X g c5
/-! ### the defs -/
/-- a def of the table, as its text stands at the top -/
structure Fits (T : List DefI) (G : Glb) (d : DefI) (e : He.DefD) : Prop where
  at_ : e.at_ = (d.name, none)
  dv : ∀ K, e.dvs K = d.dfl.map toV
  kw : e.kwd = []
  flat : d.dfl.all flatD = true
  le : d.dfl.length ≤ d.ps.length
  sc : FnScope d.N d.ps e.scope
  binds : ∀ (K : PySem.W.Frag) (f : Addr) (fd : FuncData), FunD K e.name e.qual e.params e.body e.scope (d.dfl.map toV) [] f fd → ∀ i, i ≤ d.dfl.length → ∃ ds, Vals ((d.dfl.map toV).drop i) ds ∧ Binds K fd d.ps ds
  kws : ∀ (K : PySem.W.Frag) (f : Addr) (fd : FuncData), FunD K e.name e.qual e.params e.body e.scope (d.dfl.map toV) [] f fd → ∀ p ∈ d.kws, ∃ its : List Value, KBn K fd d.ps p.1 p.2 (fun us ws => kwAll d.ps d.lo p.2 us its ws) (fun vs zs => kwAll d.ps d.lo p.2 vs (d.dfl.map toV) zs)
  ck : ckSs (ckOf T G d e.scope) d.ir e.body = true
theorem Fits.at {T : List DefI} {G : Glb} {d : DefI} {e : He.DefD} (F : Fits T G d e) {K : PySem.W.Frag} {mg : Str → Option Value} (hm : mg d.name = some (.ref (He.ga K d.name))) (h : ∃ fd, FunD K e.name e.qual e.params e.body e.scope (e.dvs K) (e.kws K) (He.fAd K e.at_) fd) : DefAt K mg T G d := by
  obtain ⟨fd, h⟩ := h
  have e1 : e.kws K = [] := by
    unfold He.DefD.kws
    rw [F.kw]
    rfl
  rw [e1, F.dv, F.at_] at h
  have e2 : He.fAd K (d.name, none) = He.ga K d.name := rfl
  rw [e2] at h
  exact ⟨F.flat, F.le, _, fd, _, _, _, _, _, hm, h, F.sc, F.binds K _ _ h, F.kws K _ _ h, F.ck⟩
/-- no defaults, no keywords -/
theorem Fits.plain {T : List DefI} {G : Glb} {d : DefI} {e : He.DefD} (at_ : e.at_ = (d.name, none)) (dfl : d.dfl = []) (edf : e.dfl = []) (kw : e.kwd = []) (kws : d.kws = []) (sc : FnScope d.N d.ps e.scope) (ck : ckSs (ckOf T G d e.scope) d.ir e.body = true)
    (h : ∀ (kV doc pm : Value) (an : Option Addr) (cdv ct : Value) (us : List Value), us.length = d.ps.length → bindArgs (PySem.W.fnOf e.name e.qual e.params e.body e.scope .none kV doc pm an cdv ct) ⟨us, []⟩ = pure (d.ps.zip us)) : Fits T G d e where
  at_ := at_
  dv := fun K => by
    unfold He.DefD.dvs
    rw [edf, dfl]
    rfl
  kw := kw
  flat := by rw [dfl]; rfl
  le := by rw [dfl]; exact Nat.zero_le _
  sc := sc
  binds := fun K f fd F i hi => by
    rw [dfl] at F hi ⊢
    have e : i = 0 := Nat.le_zero.mp hi
    subst e
    exact ⟨[], .nil, F.bindsN h⟩
  kws := fun K f fd F p hp => by
    rw [kws] at hp
    cases hp
  ck := ck
/-- names that differ -/
theorem uniq_of : ∀ {T : List DefI}, (T.map DefI.name).Nodup → uniq T
  | [], _ => fun d h => absurd h (List.not_mem_nil)
  | e :: T, h => fun d hd => by
    rw [List.map_cons, List.nodup_cons] at h
    rcases List.mem_cons.mp hd with rfl | hd
    · exact List.find?_cons_of_pos (beq_self_eq_true _)
    · have ne : (e.name == d.name) = false := beq_eq_false_iff_ne.mpr fun q => h.1 (q ▸ List.mem_map_of_mem hd)
      rw [List.find?_cons_of_neg (by rw [ne]; exact Bool.false_ne_true)]
      exact uniq_of h.2 d hd
/-- a table and its texts, one by one -/
inductive FitsAll (T : List DefI) (G : Glb) : List DefI → List He.DefD → Prop
  | nil : FitsAll T G [] []
  | cons {d : DefI} {e : He.DefD} {ds : List DefI} {es : List He.DefD} : Fits T G d e → FitsAll T G ds es → FitsAll T G (d :: ds) (e :: es)
theorem FitsAll.get {T : List DefI} {G : Glb} : ∀ {ds : List DefI} {es : List He.DefD}, FitsAll T G ds es → ∀ d ∈ ds, ∃ z ∈ es, Fits T G d z
  | _, _, .nil, d, h => absurd h (List.not_mem_nil)
  | _, _, .cons f r, d, h => by
    rcases List.mem_cons.mp h with rfl | h
    · exact ⟨_, List.mem_cons_self, f⟩
    · obtain ⟨z, hz, g⟩ := r.get d h
      exact ⟨z, List.mem_cons_of_mem _ hz, g⟩
/-! ### the law's def -/
theorem RdL.of_only {K : PySem.W.Frag} {H : Hp} {a : Addr} {xs : List V} (o : Only H) (h : SqL K H a xs) : RdL K H a xs := by
  rcases h with (h | ⟨o', h⟩) | h
  · rcases o a with e | ⟨o', ys, e⟩
    · rw [h] at e; cases e
    · rw [h] at e; cases e
  · exact .inl ⟨o', h⟩
  · exact .inr h
theorem rvs_ints {K : PySem.W.Frag} {A : List Addr} {H : Hp} : ∀ ns : List Int, RVs K A H (ns.map V.int) (ns.map D.int)
  | [] => .nil
  | n :: ns => .cons (.int n) (rvs_ints ns)
theorem law_sp {K : PySem.W.Frag} {m : List D → M D} {H : Hp} {a : Addr} {ns : List Int} (hO : Only H) (hS : SqL K H a (ns.map V.int)) (h : ∃ s, m [.ref 0] [.ro (ns.map D.int)] = .ok (.bl true) s) :
    spOf K 1 m [.ref a] H (fun v _ => v = .bl true) fun _ _ _ => False := by
  obtain ⟨s, e⟩ := h
  refine ⟨[a], [.ro (ns.map D.int)], [.ref 0], ⟨rfl, fun n m b o p h1 h2 h3 h4 m1 m2 => ?_, fun n b o h1 h2 => ?_⟩, .cons (.ref rfl) .nil, rfl, ?_⟩
  · cases n with
    | zero => cases h3; cases m1
    | succ n => simp at h3
  · cases n with
    | zero =>
      cases h1
      cases h2
      exact ⟨_, RdL.of_only hO hS, rvs_ints ns⟩
    | succ n => simp at h2
  · rw [e]
    intro v H' A' nx rs r
    cases r
    rfl
/-- the law, from what the top holds -/
theorem law_F {l : PySem.W.OpenLaw} {n k : Nat} {x : Str} {d : DefI} {T : List DefI} {G : Glb} {fa : List He.Fa} {fn : List He.DefD} {ex : PySem.W.Frag → Bool} {nm : Str}
    (un : uniq T) (hd : d ∈ T) (hex : ∀ K, ex K = true → glbB G K = true ∧ ∀ e ∈ T, nsB K e.name (some (.ref (He.ga K e.name))) = true)
    (fit : ∀ e ∈ T, ∃ z ∈ fn, Fits T G e z) (hps : d.ps = [x]) (hnm : d.name = nm) (hdf : d.dfl = [])
    {z : He.DefD} (hz : z ∈ fn) (F : Fits T G d z) (bindA : ∀ (K : PySem.W.Frag) (f : Addr) (fd : FuncData), FunD K z.name z.qual z.params z.body z.scope [] [] f fd → ∀ (s : Shared) (u : Value), BindsTo s fd ⟨[u], []⟩ [(x, u)])
    (keeps : ∀ ns : List Int, ns.length ≤ n → (∀ i ∈ ns, Builtin.Int.intBits i ≤ 1048576) → ∃ s, runD T k d [.ref 0] [.ro (ns.map D.int)] = .ok (.bl true) s) :
    ∀ (w : World) (mg : Str → Option Value) (fa' : Addr) (h : Heap), (∃ K : PySem.W.Frag, K.In h ∧ He.SaysD fa fn K ∧ ex K = true) → h.Ns mainGlobals mg → mg nm = some (.ref fa') →
      ∃ (K : PySem.W.Frag) (fd : FuncData) (sp : Sp), K.In h ∧ (∀ (s : Shared) (u : Value), BindsTo s fd ⟨[u], []⟩ [(x, u)]) ∧
        (∀ (H : Hp) (a : Addr) (ns : List Int), ns.length ≤ n → (∀ i ∈ ns, Builtin.Int.intBits i ≤ 1048576) → Only H → SqL K H a (ns.map V.int) → sp [.ref a] H (fun v _ => v = .bl true) fun _ _ _ => False) ∧
        ∀ base : Heap, K.In base → base.Ns mainGlobals mg → FnOk l.prog w K mg base (L2.CX l.prog w) k fa' fd [x] sp := by
  intro w mg fa' h ⟨K, KX, c, cx⟩ G' hmg
  obtain ⟨g1, g2⟩ := hex K cx
  obtain ⟨i, hi, ei⟩ := List.mem_iff_getElem.mp hz
  obtain ⟨fd, FD⟩ := c.def_ i (d := z) (by rw [List.getElem?_eq_getElem hi, ei])
  have e1 : z.kws K = [] := by
    unfold He.DefD.kws
    rw [F.kw]
    rfl
  have hm : mg d.name = some (.ref (He.ga K d.name)) := nsB_some KX G' (g2 d hd)
  rw [e1, F.dv, F.at_] at FD
  have e2 : He.fAd K (d.name, none) = He.ga K d.name := rfl
  rw [e2] at FD
  have e3 : He.ga K d.name = fa' := by
    rw [hnm] at hm ⊢
    have := hm.symm.trans hmg
    injection this with this
    injection this
  rw [e3] at FD hm
  have FD0 : FunD K z.name z.qual z.params z.body z.scope [] [] fa' fd := by
    rw [hdf] at FD
    exact FD
  refine ⟨K, fd, spOf K d.ps.length (runD T k d), KX, bindA K _ _ FD0, fun H a ns hl hb hO hS => ?_, fun base KB GB => ?_⟩
  · rw [hps]
    exact law_sp hO hS (keeps ns hl hb)
  · have hT : ∀ e ∈ T, DefAt K mg T G e := fun e he => by
      obtain ⟨y, hy, Fy⟩ := fit e he
      obtain ⟨j, hj, ej⟩ := List.mem_iff_getElem.mp hy
      exact Fy.at (nsB_some KX G' (g2 e he)) (c.def_ j (d := y) (by rw [List.getElem?_eq_getElem hj, ej]))
    have r := tab_ok (P := l.prog) (w := w) (base := base) un (glbB_ok KX G' g1) hT k d hd _ fd _ _ _ _ _ hm FD F.sc F.ck
    rw [hps] at r
    rw [hps]
    exact r
/-- the end of a law's proof: what the top holds, what the def computes -/
theorem law_walk {l : PySem.W.OpenLaw} {n k : Nat} {x : Str} {q : Program} {loose : List Str} {XP : (Str → Option Value) → Heap → Prop} {d : DefI} {dr : DefRec} {T : List DefI} {G : Glb} {m : Nat} {fa : List He.Fa} {fn : List He.DefD} {ex : PySem.W.Frag → Bool}
    (hn : l.most = some n) (small : n ≤ sizeLine) (nodef : dr.params.defaults = []) (room : Room k callerA) (un : uniq T) (hd : d ∈ T) (hex : ∀ K, ex K = true → glbB G K = true ∧ ∀ e ∈ T, nsB K e.name (some (.ref (He.ga K e.name))) = true)
    (fit : ∀ e ∈ T, ∃ z ∈ fn, Fits T G e z) (hps : d.ps = [x]) (hnm : d.name = dr.name) (hdf : d.dfl = [])
    {z : He.DefD} (hz : z ∈ fn) (F : Fits T G d z) (bindA : ∀ (K : PySem.W.Frag) (f : Addr) (fd : FuncData), FunD K z.name z.qual z.params z.body z.scope [] [] f fd → ∀ (s : Shared) (u : Value), BindsTo s fd ⟨[u], []⟩ [(x, u)])
    (keeps : ∀ ns : List Int, ns.length ≤ n → (∀ i ∈ ns, Builtin.Int.intBits i ≤ 1048576) → ∃ s, runD T k d [.ref 0] [.ro (ns.map D.int)] = .ok (.bl true) s) :
    PySem.W.WalkO q loose XP (hookB m fa fn ex).says l.row.toRowW dr [] (fun f vs => PySem.call f vs) := by
  refine Att.attach_callB hn nodef ?_
  intro w t t' mg mb at_ ob p1 p2 p3 a vs ns G' Y _ _ _ hmg here iare many bits nogen
  obtain ⟨K, fd, sp, inK, bind, promise, keepsF⟩ := law_F (l := l) (k := k) un hd hex fit hps hnm hdf hz F bindA keeps w mg at_ _ Y G'.T.g hmg
  refine law_call inK G'.T.g G'.T.b G'.T.builtins G'.T.nolimit nogen here iare (Nat.le_trans many small) room keepsF bind ?_ ?_
  · intro H only sq
    exact promise H a ns many bits only sq
  · rintro H e t2 ⟨_, _, _, _, _, _, _, _, _, _, _, _, no⟩
    exact no
end RI
set_option maxRecDepth 100000
set_option maxHeartbeats 4000000
/-! RP: steps through what the language computes: wp of a result, wf of a statement's end. -/
namespace RI
open PySem L2
variable [Xs]
def wp0 {α : Type} (r : Res α) (Q : α → Store → Prop) (X : Exn → Store → Prop) : Prop := match r with
  | .ok a s => Q a s
  | .ex x s => X x s
  | .bad => False
def wf0 (r : Fl) (N : Env → Store → Prop) (R : D → Store → Prop) (Bk Ct : Env → Store → Prop) (X : Exn → Env → Store → Prop) : Prop := match r with
  | .nx ρ s => N ρ s
  | .rt d s => R d s
  | .bk ρ s => Bk ρ s
  | .ct ρ s => Ct ρ s
  | .ex x ρ s => X x ρ s
  | .bad => False
structure wp {α : Type} (r : Res α) (Q : α → Store → Prop) (X : Exn → Store → Prop) : Prop where
  out : wp0 r Q X
structure wf (r : Fl) (N : Env → Store → Prop) (R : D → Store → Prop) (Bk Ct : Env → Store → Prop) (X : Exn → Env → Store → Prop) : Prop where
  out : wf0 r N R Bk Ct X
/-- the two ways of a test -/
def Br (b : Bool) (A C : Prop) : Prop := if b = true then A else C
section
variable {A C : Prop}
theorem br_t (h : A) : Br true A C := h
theorem br_f (h : C) : Br false A C := by unfold Br; rw [if_neg Bool.false_ne_true]; exact h
theorem br {b : Bool} (h : b = true → A) (g : b = false → C) : Br b A C := by
  cases b with
  | true => exact br_t (h rfl)
  | false => exact br_f (g rfl)
theorem br_d {P : Prop} {_ : Decidable P} (h : P → A) (g : ¬P → C) : Br (decide P) A C := br (fun q => h (of_decide_eq_true q)) fun q => g (of_decide_eq_false q)
theorem br_n {b : Bool} (h : Br b C A) : Br (!b) A C := by
  cases b with
  | true => exact br_f h
  | false =>
    unfold Br at h
    rw [if_neg Bool.false_ne_true] at h
    exact h
theorem br_dt {P : Prop} {_ : Decidable P} (p : P) (h : A) : Br (decide P) A C := by rw [decide_eq_true p]; exact h
theorem br_df {P : Prop} {_ : Decidable P} (p : ¬P) (h : C) : Br (decide P) A C := by rw [decide_eq_false p]; exact br_f h
end
section
variable {α β : Type} {Q : α → Store → Prop} {X : Exn → Store → Prop} {s s' : Store}
theorem w_ok {a : α} (h : Q a s) : wp (.ok a s) Q X := ⟨h⟩
theorem w_eq {r : Res α} {a : α} (e : r = .ok a s) (h : Q a s) : wp r Q X := by rw [e]; first | exact h | exact ⟨h⟩ | exact h.out | exact ⟨h.out⟩
theorem w_eqx {r : Res α} {x : Exn} (e : r = .ex x s) (h : X x s) : wp r Q X := by rw [e]; first | exact h | exact ⟨h⟩ | exact h.out | exact ⟨h.out⟩
theorem w_mono {r : Res α} {Q' : α → Store → Prop} {X' : Exn → Store → Prop} (h : wp r Q' X') (q : ∀ a s, Q' a s → Q a s) (x : ∀ e s, X' e s → X e s) : wp r Q X := by
  cases r with
  | ok a s => exact ⟨q a s h.out⟩
  | ex e s => exact ⟨x e s h.out⟩
  | bad => first | exact h | exact ⟨h⟩ | exact h.out | exact ⟨h.out⟩
/-- .. without exceptions -/
theorem w_get {r : Res α} {Q' : α → Store → Prop} (h : wp r Q' fun _ _ => False) (q : ∀ a s, Q' a s → Q a s) : wp r Q X := w_mono h q fun _ _ z => z.elim
theorem w_bnd {m : M β} {f : β → M α} (h : wp (m s) (fun b s1 => wp (f b s1) Q X) X) : wp (bnd m f s) Q X := by
  unfold bnd
  cases e : m s with
  | ok b s1 => rw [e] at h; first | exact h | exact ⟨h⟩ | exact h.out | exact ⟨h.out⟩
  | ex x s1 => rw [e] at h; first | exact h | exact ⟨h⟩ | exact h.out | exact ⟨h.out⟩
  | bad => rw [e] at h; first | exact h | exact ⟨h⟩ | exact h.out | exact ⟨h.out⟩
theorem w_ret {a : α} (h : Q a s) : wp (ret a s) Q X := ⟨h⟩
theorem wp_out {r : Res α} (h : wp r Q fun _ _ => False) : ∃ a s, r = .ok a s ∧ Q a s := by
  cases r with
  | ok a s => exact ⟨a, s, rfl, h.out⟩
  | ex x s => exact h.out.elim
  | bad => exact h.out.elim
end
section
variable {B : Tb} {ρ : Env} {s : Store} {Q : D → Store → Prop} {Qs : List D → Store → Prop} {Qb : Bool → Store → Prop} {X : Exn → Store → Prop}
/-! ### expressions -/
theorem w_c {d : D} (h : Q d s) : wp (ev B (.c d) ρ s) Q X := by rw [ev]; first | exact h | exact ⟨h⟩ | exact h.out | exact ⟨h.out⟩
theorem w_var {i : Nat} {d : D} (e : ρ[i]? = some (some d)) (h : Q d s) : wp (ev B (.var i) ρ s) Q X := by
  rw [ev, e]
  first | exact h | exact ⟨h⟩ | exact h.out | exact ⟨h.out⟩
theorem w_nil (h : Qs [] s) : wp (evs B (Es.of []) ρ s) Qs X := by
  show wp (evs B .nil ρ s) Qs X
  rw [evs]
  first | exact h | exact ⟨h⟩ | exact h.out | exact ⟨h.out⟩
theorem w_cons {e : E} {r : List E} (h : wp (ev B e ρ s) (fun d s1 => wp (evs B (Es.of r) ρ s1) (fun ds s2 => Qs (d :: ds) s2) X) X) : wp (evs B (Es.of (e :: r)) ρ s) Qs X := by
  show wp (evs B (.cons e (Es.of r)) ρ s) Qs X
  rw [evs]
  refine w_bnd ?_
  refine w_mono h (fun d s1 q => w_bnd (w_mono q (fun _ _ q => ⟨q⟩) fun _ _ z => z)) fun _ _ z => z
theorem w_tup {es : Es} (h : wp (evs B es ρ s) (fun ds s1 => wp (tupK ds s1) Q X) X) : wp (ev B (.tup es) ρ s) Q X := by rw [ev]; exact w_bnd h
theorem w_tupK {ds : List D} (n : Nat.ble ds.length most = true) (h : Q (.tup ds) s) : wp (tupK ds s) Q X := by
  unfold tupK
  rw [if_pos (Nat.le_of_ble_eq_true n)]
  first | exact h | exact ⟨h⟩ | exact h.out | exact ⟨h.out⟩
theorem w_lst {es : Es} (h : wp (evs B es ρ s) (fun ds s1 => wp (lstK ds s1) Q X) X) : wp (ev B (.lst es) ρ s) Q X := by rw [ev]; exact w_bnd h
theorem w_lstK {ds : List D} (n : Nat.ble ds.length most = true) (h : Q (.ref s.length) (s ++ [.lst ds])) : wp (lstK ds s) Q X := by
  unfold lstK
  rw [if_pos (Nat.le_of_ble_eq_true n)]
  first | exact h | exact ⟨h⟩ | exact h.out | exact ⟨h.out⟩
theorem w_dic {es : Es} (h : wp (evs B es ρ (s ++ [.dct []])) (fun ds s1 => wp (dicK (.ref s.length) ds s1) Q X) X) : wp (ev B (.dic es) ρ s) Q X := by
  rw [ev]
  exact w_bnd ⟨w_bnd h⟩
theorem w_dicK {n : Nat} {ds : List D} (e : s[n]? = some (.dct [])) (k : keysOk ds = true) (h : Q (.ref n) (s.set n .odc)) : wp (dicK (.ref n) ds s) Q X := by
  unfold dicK
  dsimp only
  rw [e]
  dsimp only
  rw [if_pos k]
  first | exact h | exact ⟨h⟩ | exact h.out | exact ⟨h.out⟩
theorem w_bin {op : Operator} {a b : E} (h : wp (ev B a ρ s) (fun x s1 => wp (ev B b ρ s1) (fun y s2 => wp (binD op x y s2) Q X) X) X) : wp (ev B (.bin op a b) ρ s) Q X := by
  rw [ev]
  exact w_bnd (w_mono h (fun x s1 q => w_bnd q) fun _ _ z => z)
theorem w_add {i j : Int} (h : Q (.int (i + j)) s) : wp (binD .Add (.int i) (.int j) s) Q X := ⟨h⟩
theorem w_sub {i j : Int} (h : Q (.int (i - j)) s) : wp (binD .Sub (.int i) (.int j) s) Q X := ⟨h⟩
theorem w_mul {i j : Int} (a : fits i) (b : fits j) (h : Q (.int (i * j)) s) : wp (binD .Mult (.int i) (.int j) s) Q X := by
  show wp (ofO (((if fits i ∧ fits j then some (i * j) else none) : Option Int).map D.int) s) Q X
  rw [if_pos ⟨a, b⟩]
  first | exact h | exact ⟨h⟩ | exact h.out | exact ⟨h.out⟩
theorem w_fdiv {i j : Int} (a : j ≠ 0) (b : fits j) (h : Q (.int (i.fdiv j)) s) : wp (binD .FloorDiv (.int i) (.int j) s) Q X := by
  show wp (ofO (((if j ≠ 0 ∧ fits j then some (i.fdiv j) else none) : Option Int).map D.int) s) Q X
  rw [if_pos ⟨a, b⟩]
  first | exact h | exact ⟨h⟩ | exact h.out | exact ⟨h.out⟩
theorem w_mod {i j : Int} (a : j ≠ 0) (h : Q (.int (i.fmod j)) s) : wp (binD .Mod (.int i) (.int j) s) Q X := by
  show wp (ofO (((if j ≠ 0 then some (i.fmod j) else none) : Option Int).map D.int) s) Q X
  rw [if_pos a]
  first | exact h | exact ⟨h⟩ | exact h.out | exact ⟨h.out⟩
theorem w_pow {i j : Int} (a : 0 ≤ j ∧ j ≤ 4000 ∧ i.natAbs < 2 ^ 64) (h : Q (.int (i ^ j.toNat)) s) : wp (binD .Pow (.int i) (.int j) s) Q X := by
  show wp (ofO (((if 0 ≤ j ∧ j ≤ 4000 ∧ i.natAbs < 2 ^ 64 then some (i ^ j.toNat) else none) : Option Int).map D.int) s) Q X
  rw [if_pos a]
  first | exact h | exact ⟨h⟩ | exact h.out | exact ⟨h.out⟩
/-- two lists -/
theorem w_addL {n m : Nat} {l k : List D} (e : s[n]? = some (.lst l)) (g : s[m]? = some (.lst k)) (b : l.length + k.length ≤ most) (h : Q (.ref s.length) (s ++ [.lst (l ++ k)])) : wp (binD .Add (.ref n) (.ref m) s) Q X := by
  show wp (match Operator.Add, s[n]?, s[m]? with
    | .Add, some (.lst l), some (.lst m) => if l.length + m.length ≤ most then Res.ok (D.ref s.length) (s ++ [.lst (l ++ m)]) else .bad
    | _, _, _ => .bad) Q X
  rw [e, g]
  dsimp only
  rw [if_pos b]
  first | exact h | exact ⟨h⟩ | exact h.out | exact ⟨h.out⟩
theorem w_neg {a : E} (h : wp (ev B a ρ s) (fun x s1 => wp (negK x s1) Q X) X) : wp (ev B (.neg a) ρ s) Q X := by rw [ev]; exact w_bnd h
theorem w_negK {i : Int} (h : Q (.int (-i)) s) : wp (negK (.int i) s) Q X := ⟨h⟩
theorem w_cmp {op : CmpOp} {a b : E} (h : wp (ev B a ρ s) (fun x s1 => wp (ev B b ρ s1) (fun y s2 => wp (cmpB op x y s2) (fun k s3 => Q (.bl k) s3) X) X) X) : wp (ev B (.cmp op a b) ρ s) Q X := by
  rw [ev]
  refine w_bnd (w_mono h (fun x s1 q => w_bnd (w_mono q (fun y s2 q => ?_) fun _ _ z => z)) fun _ _ z => z)
  exact w_bnd (w_mono q (fun k s3 q => ⟨q⟩) fun _ _ z => z)
theorem w_cmpB {op : CmpOp} {x y : D} {k : Bool} (e : cmpD op x y s = some k) (h : Qb k s) : wp (cmpB op x y s) Qb X := by
  unfold cmpB
  rw [e]
  first | exact h | exact ⟨h⟩ | exact h.out | exact ⟨h.out⟩
theorem w_lt {i j : Int} (h : Qb (decide (i < j)) s) : wp (cmpB .Lt (.int i) (.int j) s) Qb X := ⟨h⟩
theorem w_le {i j : Int} (h : Qb (decide (i ≤ j)) s) : wp (cmpB .LtE (.int i) (.int j) s) Qb X := ⟨h⟩
theorem w_gt {i j : Int} (h : Qb (decide (j < i)) s) : wp (cmpB .Gt (.int i) (.int j) s) Qb X := ⟨h⟩
theorem w_ge {i j : Int} (h : Qb (decide (j ≤ i)) s) : wp (cmpB .GtE (.int i) (.int j) s) Qb X := ⟨h⟩
theorem w_isN {d : D} (h : Qb (isNon d) s) : wp (cmpB .Is d .non s) Qb X := ⟨h⟩
theorem w_isNN {d : D} (h : Qb (!isNon d) s) : wp (cmpB .IsNot d .non s) Qb X := ⟨h⟩
theorem eqD_int (s : Store) (i j : Int) : eqD s (.int i) (.int j) = some (decide (i = j)) := by
  have e : (i == j) = decide (i = j) := rfl
  unfold eqD dat
  dsimp only
  rw [if_pos ⟨rfl, rfl⟩, ← e]
  unfold PyData.eqv
  rfl
theorem eqD_bl (s : Store) (i j : Bool) : eqD s (.bl i) (.bl j) = some (i == j) := by
  unfold eqD dat
  dsimp only
  rw [if_pos ⟨rfl, rfl⟩]
  unfold PyData.eqv
  rfl
theorem shaped_str {x : Str} (h : PyData.strOk x = true) : SeqAt.shaped (.str x) = true := by
  unfold SeqAt.shaped PyData.canLay0
  rw [h]
  rfl
theorem eqD_str (s : Store) {i j : Str} (hi : PyData.strOk i = true) (hj : PyData.strOk j = true) : eqD s (.str i) (.str j) = some (i == j) := by
  unfold eqD dat
  dsimp only
  rw [if_pos ⟨shaped_str hi, shaped_str hj⟩]
  unfold PyData.eqv
  rfl
theorem w_eqI {i j : Int} (h : Qb (decide (i = j)) s) : wp (cmpB .Eq (.int i) (.int j) s) Qb X := w_cmpB (eqD_int s i j) h
theorem w_neI {i j : Int} (h : Qb (!decide (i = j)) s) : wp (cmpB .NotEq (.int i) (.int j) s) Qb X := w_cmpB (show (eqD s (.int i) (.int j)).map not = _ by rw [eqD_int]; rfl) h
theorem w_eqB {i j : Bool} (h : Qb (i == j) s) : wp (cmpB .Eq (.bl i) (.bl j) s) Qb X := w_cmpB (eqD_bl s i j) h
theorem w_neB {i j : Bool} (h : Qb (!(i == j)) s) : wp (cmpB .NotEq (.bl i) (.bl j) s) Qb X := w_cmpB (show (eqD s (.bl i) (.bl j)).map not = _ by rw [eqD_bl]; rfl) h
theorem w_eqS {i j : Str} (hi : PyData.strOk i = true) (hj : PyData.strOk j = true) (h : Qb (i == j) s) : wp (cmpB .Eq (.str i) (.str j) s) Qb X := w_cmpB (eqD_str s hi hj) h
theorem w_neS {i j : Str} (hi : PyData.strOk i = true) (hj : PyData.strOk j = true) (h : Qb (!(i == j)) s) : wp (cmpB .NotEq (.str i) (.str j) s) Qb X := w_cmpB (show (eqD s (.str i) (.str j)).map not = _ by rw [eqD_str s hi hj]; rfl) h
theorem w_tru {d : D} {k : Bool} (e : tru s d = some k) (h : Qb k s) : wp (truK d s) Qb X := by
  unfold truK
  rw [e]
  first | exact h | exact ⟨h⟩ | exact h.out | exact ⟨h.out⟩
theorem w_trB {b : Bool} (h : Qb b s) : wp (truK (.bl b) s) Qb X := ⟨h⟩
theorem w_trI {i : Int} (h : Qb (i != 0) s) : wp (truK (.int i) s) Qb X := ⟨h⟩
theorem w_truM {m : M D} (h : wp (m s) (fun x s1 => wp (truK x s1) Qb X) X) : wp (truM m s) Qb X := w_bnd h
theorem w_and {a b : E} (h : wp (ev B a ρ s) (fun x s1 => wp (truK x s1) (fun k s2 => Br k (wp (ev B b ρ s2) Q X) (Q x s2)) X) X) : wp (ev B (.and a b) ρ s) Q X := by
  rw [ev]
  refine w_bnd (w_mono h (fun x s1 q => w_bnd (w_mono q (fun k s2 q => ?_) fun _ _ z => z)) fun _ _ z => z)
  unfold Br at q
  cases k with
  | true => first | exact q | exact ⟨q⟩ | exact q.out | exact ⟨q.out⟩
  | false => first | exact q | exact ⟨q⟩ | exact q.out | exact ⟨q.out⟩
theorem w_or {a b : E} (h : wp (ev B a ρ s) (fun x s1 => wp (truK x s1) (fun k s2 => Br k (Q x s2) (wp (ev B b ρ s2) Q X)) X) X) : wp (ev B (.or a b) ρ s) Q X := by
  rw [ev]
  refine w_bnd (w_mono h (fun x s1 q => w_bnd (w_mono q (fun k s2 q => ?_) fun _ _ z => z)) fun _ _ z => z)
  unfold Br at q
  cases k with
  | true => first | exact q | exact ⟨q⟩ | exact q.out | exact ⟨q.out⟩
  | false => first | exact q | exact ⟨q⟩ | exact q.out | exact ⟨q.out⟩
theorem w_not {a : E} (h : wp (ev B a ρ s) (fun x s1 => wp (truK x s1) (fun k s2 => Q (.bl (!k)) s2) X) X) : wp (ev B (.not a) ρ s) Q X := by
  rw [ev]
  exact w_bnd (w_bnd (w_mono h (fun _ _ q => w_mono q (fun _ _ q => ⟨q⟩) fun _ _ z => z) fun _ _ z => z))
theorem w_ite {c a b : E} (h : wp (ev B c ρ s) (fun x s1 => wp (truK x s1) (fun k s2 => Br k (wp (ev B a ρ s2) Q X) (wp (ev B b ρ s2) Q X)) X) X) : wp (ev B (.ite c a b) ρ s) Q X := by
  rw [ev]
  refine w_bnd (w_bnd (w_mono h (fun x s1 q => w_mono q (fun k s2 q => ?_) fun _ _ z => z) fun _ _ z => z))
  unfold Br at q
  cases k with
  | true => first | exact q | exact ⟨q⟩ | exact q.out | exact ⟨q.out⟩
  | false => first | exact q | exact ⟨q⟩ | exact q.out | exact ⟨q.out⟩
theorem w_ix {a b : E} (h : wp (ev B a ρ s) (fun x s1 => wp (ev B b ρ s1) (fun y s2 => wp (ixK x y s2) Q X) X) X) : wp (ev B (.ix a b) ρ s) Q X := by
  rw [ev]
  exact w_bnd (w_mono h (fun x s1 q => w_bnd q) fun _ _ z => z)
theorem ixD_seq {x : D} {l : List D} {i : Int} (e : seqOf s x = some l) : ixD x (.int i) s = atI l i := by
  cases x with
  | str y => cases e
  | tup k => cases e; rfl
  | ref n =>
    show (seqOf s (.ref n)).bind _ = _
    rw [e]
    rfl
  | non => cases e
  | bl b => cases e
  | int j => cases e
theorem w_ixS {x d : D} {l : List D} {i : Int} (e : seqOf s x = some l) (g : atI l i = some d) (h : Q d s) : wp (ixK x (.int i) s) Q X := by
  unfold ixK
  rw [ixD_seq e, g]
  first | exact h | exact ⟨h⟩ | exact h.out | exact ⟨h.out⟩
theorem w_call {f : Str} {es : Es} (h : wp (evs B es ρ s) (fun ds s1 => wp (B.call f ds s1) Q X) X) : wp (ev B (.call f es) ρ s) Q X := by rw [ev]; exact w_bnd h
theorem w_callk {f : Str} {es kes : Es} {ks : List Str} (h : wp (evs B es ρ s) (fun ds s1 => wp (evs B kes ρ s1) (fun ws s2 => wp (B.callk f ks ds ws s2) Q X) X) X) : wp (ev B (.callk f es ks kes) ρ s) Q X := by
  rw [ev]
  exact w_bnd (w_mono h (fun x s1 q => w_bnd q) fun _ _ z => z)
theorem w_bi {f : Bi} {es : Es} (h : wp (evs B es ρ s) (fun ds s1 => wp (biD f ds s1) Q X) X) : wp (ev B (.bi f es) ρ s) Q X := by rw [ev]; exact w_bnd h
theorem w_len {x : D} {l : List D} (e : seqOf s x = some l) (h : Q (.int l.length) s) : wp (biD .len [x] s) Q X := by
  cases x with
  | str y => cases e
  | tup k => cases e; first | exact h | exact ⟨h⟩ | exact h.out | exact ⟨h.out⟩
  | ref n =>
    show wp (match seqOf s (.ref n) with
      | some l => Res.ok (D.int l.length) s
      | none => .bad) Q X
    rw [e]
    first | exact h | exact ⟨h⟩ | exact h.out | exact ⟨h.out⟩
  | non => cases e
  | bl b => cases e
  | int j => cases e
theorem w_abs {i : Int} (h : Q (.int (i.natAbs : Int)) s) : wp (biD .abs [.int i] s) Q X := by
  have e : (if i < 0 then -i else i) = (i.natAbs : Int) := by split <;> omega
  rw [← e] at h
  exact ⟨h⟩
theorem w_gcd {i j : Int} (h : Q (.int ((Nat.gcd i.natAbs j.natAbs : Nat) : Int)) s) : wp (biD .gcd [.int i, .int j] s) Q X := ⟨h⟩
theorem w_intI {i : Int} (h : Q (.int i) s) : wp (biD .int [.int i] s) Q X := ⟨h⟩
theorem w_intB {b : Bool} (h : Q (.int (if b then 1 else 0)) s) : wp (biD .int [.bl b] s) Q X := ⟨h⟩
theorem w_list {x : D} {l : List D} (e : seqOf s x = some l) (h : Q (.ref s.length) (s ++ [.lst l])) : wp (biD .list [x] s) Q X := by
  show wp (match seqOf s x with
    | some l => Res.ok (D.ref s.length) (s ++ [.lst l])
    | none => .bad) Q X
  rw [e]
  first | exact h | exact ⟨h⟩ | exact h.out | exact ⟨h.out⟩
theorem w_app {a b : E} (h : wp (ev B a ρ s) (fun x s1 => rcvOk .append s1 x = true ∧ wp (ev B b ρ s1) (fun d s2 => wp (mtD .append x [d] s2) Q X) X) X) : wp (ev B (.meth a .append (Es.of [b])) ρ s) Q X := by
  show wp (ev B (.meth a .append (.cons b .nil)) ρ s) Q X
  rw [ev]
  refine w_bnd (w_mono h (fun x s1 ⟨k, q⟩ => ?_) fun _ _ z => z)
  refine w_bnd ?_
  show wp (if rcvOk .append s1 x = true then Res.ok () s1 else .bad) _ _
  rw [if_pos k]
  refine ⟨w_bnd ?_⟩
  rw [evs]
  refine w_bnd (w_mono q (fun d s2 q => ?_) fun _ _ z => z)
  rw [evs]
  first | exact q | exact ⟨q⟩ | exact q.out | exact ⟨q.out⟩
theorem w_appK {n : Nat} {l : List D} {d : D} (e : s[n]? = some (.lst l)) (b : l.length ≤ most) (h : Q .non (s.set n (.lst (l ++ [d])))) : wp (mtD .append (.ref n) [d] s) Q X := by
  show wp (match s[n]? with
    | some (.lst l) => if l.length ≤ most then Res.ok D.non (s.set n (.lst (l ++ [d]))) else .bad
    | _ => .bad) Q X
  rw [e]
  dsimp only
  rw [if_pos b]
  first | exact h | exact ⟨h⟩ | exact h.out | exact ⟨h.out⟩
theorem w_isi {a : E} {t : Ty} (h : wp (ev B a ρ s) (fun x s1 => wp (isiK t x s1) Q X) X) : wp (ev B (.isi a t) ρ s) Q X := by rw [ev]; exact w_bnd h
theorem w_isiK {x : D} {t : Ty} {b : Bool} (e : tyD s t x = some b) (h : Q (.bl b) s) : wp (isiK t x s) Q X := by
  unfold isiK
  rw [e]
  first | exact h | exact ⟨h⟩ | exact h.out | exact ⟨h.out⟩
theorem w_isiK_t {x : D} {t : Ty} (e : tyD s t x = some true) (h : Q (.bl true) s) : wp (isiK t x s) Q X := w_isiK e h
theorem w_isiK_f {x : D} {t : Ty} (e : tyD s t x = some false) (h : Q (.bl false) s) : wp (isiK t x s) Q X := w_isiK e h
theorem w_exis {t : Str} {x : Exn} (e : B.exn = some x) (f : x.fs.isEmpty = true) (h : Q (.bl (B.sub x.cls t)) s) : wp (ev B (.exis t) ρ s) Q X := by
  rw [ev, e, Option.bind_some, if_pos f]
  first | exact h | exact ⟨h⟩ | exact h.out | exact ⟨h.out⟩
theorem w_exis_t {t : Str} {x : Exn} (e : B.exn = some x) (f : x.fs.isEmpty = true) (g : B.sub x.cls t = true) (h : Q (.bl true) s) : wp (ev B (.exis t) ρ s) Q X := w_exis e f (by rw [g]; exact h)
theorem w_exis_f {t : Str} {x : Exn} (e : B.exn = some x) (f : x.fs.isEmpty = true) (g : B.sub x.cls t = false) (h : Q (.bl false) s) : wp (ev B (.exis t) ρ s) Q X := w_exis e f (by rw [g]; exact h)
/-! ### statements -/
variable {N Bk Ct : Env → Store → Prop} {R : D → Store → Prop} {Y : Exn → Env → Store → Prop}
theorem f_nil (h : N ρ s) : wf (exSs B (Ss.of []) ρ s) N R Bk Ct Y := by
  show wf (exSs B .nil ρ s) N R Bk Ct Y
  rw [exSs]
  first | exact h | exact ⟨h⟩ | exact h.out | exact ⟨h.out⟩
theorem f_cons {a : S} {r : List S} (h : wf (exS B a ρ s) (fun ρ1 s1 => wf (exSs B (Ss.of r) ρ1 s1) N R Bk Ct Y) R Bk Ct Y) : wf (exSs B (Ss.of (a :: r)) ρ s) N R Bk Ct Y := by
  show wf (exSs B (.cons a (Ss.of r)) ρ s) N R Bk Ct Y
  rw [exSs]
  cases e : exS B a ρ s with
  | nx ρ1 s1 => rw [e] at h; first | exact h | exact ⟨h⟩ | exact h.out | exact ⟨h.out⟩
  | rt d s1 => rw [e] at h; first | exact h | exact ⟨h⟩ | exact h.out | exact ⟨h.out⟩
  | bk ρ1 s1 => rw [e] at h; first | exact h | exact ⟨h⟩ | exact h.out | exact ⟨h.out⟩
  | ct ρ1 s1 => rw [e] at h; first | exact h | exact ⟨h⟩ | exact h.out | exact ⟨h.out⟩
  | ex x ρ1 s1 => rw [e] at h; first | exact h | exact ⟨h⟩ | exact h.out | exact ⟨h.out⟩
  | bad => rw [e] at h; first | exact h | exact ⟨h⟩ | exact h.out | exact ⟨h.out⟩
theorem f_fin {α : Type} {r : Res α} {k : α → Store → Fl} (h : wp r (fun a s1 => wf (k a s1) N R Bk Ct Y) fun x s1 => Y x ρ s1) : wf (fin ρ r k) N R Bk Ct Y := by
  cases r with
  | ok a s => first | exact h | exact ⟨h⟩ | exact h.out | exact ⟨h.out⟩
  | ex x s => first | exact h | exact ⟨h⟩ | exact h.out | exact ⟨h.out⟩
  | bad => first | exact h | exact ⟨h⟩ | exact h.out | exact ⟨h.out⟩
theorem f_asg {i : Nat} {e : E} (h : wp (ev B e ρ s) (fun d s1 => N (ρ.set i (some d)) s1) fun x s1 => Y x ρ s1) : wf (exS B (.asg (.name i) e) ρ s) N R Bk Ct Y := by
  rw [exS]
  exact f_fin (w_mono h (fun _ _ q => ⟨q⟩) fun _ _ z => z)
theorem f_expr {e : E} (h : wp (ev B e ρ s) (fun d s1 => N ρ s1) fun x s1 => Y x ρ s1) : wf (exS B (.expr e) ρ s) N R Bk Ct Y := by
  rw [exS]
  exact f_fin (w_mono h (fun _ _ q => ⟨q⟩) fun _ _ z => z)
theorem f_ret {e : E} (h : wp (ev B e ρ s) R fun x s1 => Y x ρ s1) : wf (exS B (.ret e) ρ s) N R Bk Ct Y := by
  rw [exS]
  exact f_fin (w_mono h (fun _ _ q => ⟨q⟩) fun _ _ z => z)
theorem f_retN (h : R .non s) : wf (exS B .retN ρ s) N R Bk Ct Y := by
  rw [exS]
  first | exact h | exact ⟨h⟩ | exact h.out | exact ⟨h.out⟩
theorem f_ife {c : E} {a b : Ss} (h : wp (ev B c ρ s) (fun x s1 => wp (truK x s1) (fun k s2 => Br k (wf (exSs B a ρ s2) N R Bk Ct Y) (wf (exSs B b ρ s2) N R Bk Ct Y)) fun x s2 => Y x ρ s2) fun x s1 => Y x ρ s1) : wf (exS B (.ife c a b) ρ s) N R Bk Ct Y := by
  rw [exS]
  refine f_fin (w_bnd (w_mono h (fun x s1 q => w_mono q (fun k s2 q => ?_) fun _ _ z => z) fun _ _ z => z))
  unfold Br at q
  cases k with
  | true => first | exact q | exact ⟨q⟩ | exact q.out | exact ⟨q.out⟩
  | false => first | exact q | exact ⟨q⟩ | exact q.out | exact ⟨q.out⟩
theorem f_brk (h : Bk ρ s) : wf (exS B .brk ρ s) N R Bk Ct Y := by rw [exS]; first | exact h | exact ⟨h⟩ | exact h.out | exact ⟨h.out⟩
theorem f_cnt (h : Ct ρ s) : wf (exS B .cnt ρ s) N R Bk Ct Y := by rw [exS]; first | exact h | exact ⟨h⟩ | exact h.out | exact ⟨h.out⟩
theorem f_pass (h : N ρ s) : wf (exS B .pass ρ s) N R Bk Ct Y := by rw [exS]; first | exact h | exact ⟨h⟩ | exact h.out | exact ⟨h.out⟩
theorem f_raise {c : Str} (h : Y ⟨c, []⟩ ρ s) : wf (exS B (.raise c .nil) ρ s) N R Bk Ct Y := by rw [exS]; first | exact h | exact ⟨h⟩ | exact h.out | exact ⟨h.out⟩
theorem f_seti {o i e : E} (h : wp (ev B e ρ s) (fun d s1 => wp (ev B o ρ s1) (fun x s2 => wp (ev B i ρ s2) (fun y s3 => ∃ (n : Nat) (k : Int) (l : List D) (j : Nat), x = .ref n ∧ y = .int k ∧ s3[n]? = some (.lst l) ∧ ixN l.length k = some j ∧ N ρ (s3.set n (.lst (l.set j d)))) fun x s1 => Y x ρ s1) fun x s1 => Y x ρ s1) fun x s1 => Y x ρ s1) :
    wf (exS B (.seti o i e) ρ s) N R Bk Ct Y := by
  rw [exS]
  refine f_fin (w_mono h (fun d s1 q => f_fin (w_mono q (fun x s2 q => f_fin (w_mono q (fun y s3 q => ?_) fun _ _ z => z)) fun _ _ z => z)) fun _ _ z => z)
  obtain ⟨n, k, l, j, rfl, rfl, e1, e2, q⟩ := q
  dsimp only
  rw [e1]
  dsimp only
  rw [e2]
  first | exact q | exact ⟨q⟩ | exact q.out | exact ⟨q.out⟩
/-- a for, by an invariant of the turns done -/
theorem f_for {i : Nat} {it : I} {b : Ss} (h : wp (evI B it ρ s) (fun w s1 => ∃ J : Nat → Env → Store → Prop, J 0 ρ s1 ∧ (∀ k ρ s, J k ρ s → w.ok s) ∧
      (∀ k d ρ s, w.items[k]? = some d → J k ρ s → wf (exSs B b (ρ.set i (some d)) s) (J (k + 1)) R N (J (k + 1)) Y) ∧ ∀ ρ s, J w.items.length ρ s → N ρ s) fun x s1 => Y x ρ s1) : wf (exS B (.for (.name i) it b) ρ s) N R Bk Ct Y := by
  rw [exS]
  refine f_fin (w_mono h (fun w s1 ⟨J, j0, ok, step, out⟩ => ?_) fun _ _ z => z)
  have go : ∀ (m k : Nat) (ρ : Env) (s : Store), k + m = w.items.length → J k ρ s → wf (forL w (.name i) (fun ρ' s' => exSs B b ρ' s') (w.items.drop k) ρ s) N R Bk Ct Y := by
    intro m
    induction m with
    | zero =>
      intro k ρ s e j
      have e : k = w.items.length := by omega
      subst e
      rw [List.drop_length, forL, if_pos (ok _ _ _ j)]
      exact ⟨out ρ s j⟩
    | succ m ih =>
      intro k ρ s e j
      have hk : k < w.items.length := by omega
      have hd : w.items[k]? = some w.items[k] := List.getElem?_eq_getElem hk
      rw [List.drop_eq_getElem_cons hk, forL, if_pos (ok _ _ _ j)]
      have q := step k _ ρ s hd j
      show wf (match exSs B b (ρ.set i (some w.items[k])) s with
        | .nx ρ1 s1 => forL w (.name i) (fun ρ' s' => exSs B b ρ' s') (w.items.drop (k + 1)) ρ1 s1
        | .ct ρ1 s1 => forL w (.name i) (fun ρ' s' => exSs B b ρ' s') (w.items.drop (k + 1)) ρ1 s1
        | .bk ρ1 s1 => .nx ρ1 s1
        | .rt d s1 => .rt d s1
        | .ex x ρ1 s1 => .ex x ρ1 s1
        | .bad => .bad) N R Bk Ct Y
      cases e2 : exSs B b (ρ.set i (some w.items[k])) s with
      | nx ρ1 s1 => rw [e2] at q; exact ih (k + 1) ρ1 s1 (by omega) q.out
      | ct ρ1 s1 => rw [e2] at q; exact ih (k + 1) ρ1 s1 (by omega) q.out
      | bk ρ1 s1 => rw [e2] at q; first | exact q | exact ⟨q⟩ | exact q.out | exact ⟨q.out⟩
      | rt d s1 => rw [e2] at q; first | exact q | exact ⟨q⟩ | exact q.out | exact ⟨q.out⟩
      | ex x ρ1 s1 => rw [e2] at q; first | exact q | exact ⟨q⟩ | exact q.out | exact ⟨q.out⟩
      | bad => rw [e2] at q; first | exact q | exact ⟨q⟩ | exact q.out | exact ⟨q.out⟩
  exact go w.items.length 0 ρ s1 (by omega) j0
theorem w_iseq {e : E} {Qw : Walk → Store → Prop} (h : wp (ev B e ρ s) (fun x s1 => wp (seqK x s1) Qw X) X) : wp (evI B (.seq e) ρ s) Qw X := by rw [evI]; exact w_bnd h
theorem w_seqT {l : List D} {Qw : Walk → Store → Prop} (h : Qw ⟨l, []⟩ s) : wp (seqK (.tup l) s) Qw X := ⟨h⟩
theorem w_seqL {n : Nat} {l : List D} {Qw : Walk → Store → Prop} (e : lstOf s (.ref n) = some l) (h : Qw ⟨l, [(n, l)]⟩ s) : wp (seqK (.ref n) s) Qw X := by
  show wp (ofO ((lstOf s (.ref n)).map fun l => ⟨l, [(n, l)]⟩) s) Qw X
  rw [e]
  first | exact h | exact ⟨h⟩ | exact h.out | exact ⟨h.out⟩
theorem w_irng {e : E} {Qw : Walk → Store → Prop} (h : wp (ev B e ρ s) (fun x s1 => wp (rng1K x s1) Qw X) X) : wp (evI B (.rng1 e) ρ s) Qw X := by rw [evI]; exact w_bnd h
theorem w_rng1 {j : Int} {Qw : Walk → Store → Prop} (a : -(2 ^ 62) ≤ j ∧ j < 2 ^ 62) (h : Qw ⟨(List.range j.toNat).map fun k => D.int (k : Nat), []⟩ s) : wp (rng1K (.int j) s) Qw X := by
  show wp (ofO (rngD 0 j) s) Qw X
  unfold rngD
  rw [if_pos ⟨by decide, by decide, a.1, a.2⟩]
  have e : ((List.range (j - 0).toNat).map fun k => D.int ((0 : Int) + (k : Nat))) = (List.range j.toNat).map fun k => D.int (k : Nat) := by
    rw [Int.sub_zero]
    congr
    funext k
    rw [Int.zero_add]
  rw [e]
  first | exact h | exact ⟨h⟩ | exact h.out | exact ⟨h.out⟩
/-- for i in range(e) -/
theorem f_rng {i : Nat} {e : E} {b : Ss} (h : wp (ev B e ρ s) (fun x s1 => ∃ (n : Int) (J : Nat → Env → Store → Prop), x = .int n ∧ (-(2 ^ 62) ≤ n ∧ n < 2 ^ 62) ∧ J 0 ρ s1 ∧
      (∀ (k : Nat) ρ s, (k : Int) < n → J k ρ s → wf (exSs B b (ρ.set i (some (.int k))) s) (J (k + 1)) R N (J (k + 1)) Y) ∧ ∀ ρ s, J n.toNat ρ s → N ρ s) fun x s1 => Y x ρ s1) : wf (exS B (.for (.name i) (.rng1 e) b) ρ s) N R Bk Ct Y := by
  refine f_for (w_irng (w_mono h ?_ fun _ _ z => z))
  rintro x s1 ⟨n, J, rfl, bd, j0, step, out⟩
  refine w_rng1 bd ⟨J, j0, fun _ _ _ _ p hp => absurd hp (List.not_mem_nil), fun k d ρ s hd hj => ?_, fun ρ s hj => out ρ s ?_⟩
  · rw [List.getElem?_map] at hd
    cases q : (List.range n.toNat)[k]? with
    | none => rw [q] at hd; cases hd
    | some m =>
      rw [q] at hd
      cases hd
      obtain ⟨hk, e2⟩ := List.getElem?_eq_some_iff.mp q
      rw [List.getElem_range] at e2
      subst e2
      rw [List.length_range] at hk
      exact step k ρ s (by omega) hj
  · rw [List.length_map, List.length_range] at hj
    exact hj
/-- for x in a list that stays, a tuple -/
theorem f_seq {i : Nat} {e : E} {b : Ss} (h : wp (ev B e ρ s) (fun x s1 => ∃ (l : List D) (J : Nat → Env → Store → Prop), seqOf s1 x = some l ∧ J 0 ρ s1 ∧ (∀ k ρ s, J k ρ s → seqOf s x = some l) ∧
      (∀ (k : Nat) d ρ s, l[k]? = some d → J k ρ s → wf (exSs B b (ρ.set i (some d)) s) (J (k + 1)) R N (J (k + 1)) Y) ∧ ∀ ρ s, J l.length ρ s → N ρ s) fun x s1 => Y x ρ s1) : wf (exS B (.for (.name i) (.seq e) b) ρ s) N R Bk Ct Y := by
  refine f_for (w_iseq (w_mono h ?_ fun _ _ z => z))
  rintro x s1 ⟨l, J, e, j0, keep, step, out⟩
  cases x with
  | tup t =>
    cases e
    exact w_seqT ⟨J, j0, fun _ _ _ _ p hp => absurd hp (List.not_mem_nil), step, out⟩
  | ref n =>
    have e : lstOf s1 (.ref n) = some l := e
    refine w_seqL e ⟨J, j0, fun k ρ s hj p hp => ?_, step, out⟩
    have ep : p = (n, l) := by simpa using hp
    subst ep
    exact keep k ρ s hj
  | non => cases e
  | bl _ => cases e
  | int _ => cases e
  | str _ => cases e
/-- a try with one except -/
theorem f_try {b su : Ss} {x : Str} {i : Option Nat} (h : wf (exSs B b ρ s) N R Bk Ct (fun e ρ1 s1 => Br (B.sub e.cls x) (wf (exSs { B with exn := some e } su (hideE i ρ1) s1) (fun ρ s => N (hideE i ρ) s) R (fun ρ s => Bk (hideE i ρ) s) (fun ρ s => Ct (hideE i ρ) s) fun _ _ _ => False) (Y e ρ1 s1))) :
    wf (exS B (.try b x i su) ρ s) N R Bk Ct Y := by
  rw [exS]
  cases q : exSs B b ρ s with
  | nx ρ1 s1 => rw [q] at h; first | exact h | exact ⟨h⟩ | exact h.out | exact ⟨h.out⟩
  | rt d s1 => rw [q] at h; first | exact h | exact ⟨h⟩ | exact h.out | exact ⟨h.out⟩
  | bk ρ1 s1 => rw [q] at h; first | exact h | exact ⟨h⟩ | exact h.out | exact ⟨h.out⟩
  | ct ρ1 s1 => rw [q] at h; first | exact h | exact ⟨h⟩ | exact h.out | exact ⟨h.out⟩
  | bad => rw [q] at h; first | exact h | exact ⟨h⟩ | exact h.out | exact ⟨h.out⟩
  | ex e ρ1 s1 =>
    rw [q] at h
    dsimp only
    have h1 : Br (B.sub e.cls x) _ _ := h.out
    cases k : B.sub e.cls x with
    | true =>
      rw [k] at h1
      have h2 : wf _ _ _ _ _ _ := h1
      rw [if_pos rfl]
      cases z : exSs { B with exn := some e } su (hideE i ρ1) s1 with
      | nx ρ2 s2 => rw [z] at h2; exact ⟨h2.out⟩
      | rt d s2 => rw [z] at h2; exact ⟨h2.out⟩
      | bk ρ2 s2 => rw [z] at h2; exact ⟨h2.out⟩
      | ct ρ2 s2 => rw [z] at h2; exact ⟨h2.out⟩
      | ex e2 ρ2 s2 => rw [z] at h2; exact h2.out.elim
      | bad => rw [z] at h2; exact ⟨h2.out⟩
    | false =>
      rw [k] at h1
      rw [if_neg Bool.false_ne_true]
      unfold Br at h1
      rw [if_neg Bool.false_ne_true] at h1
      exact ⟨h1⟩
theorem f_mono {r : Fl} {N' : Env → Store → Prop} (h : wf r N' R Bk Ct Y) (n : ∀ ρ s, N' ρ s → N ρ s) : wf r N R Bk Ct Y := by
  cases r with
  | nx ρ s => exact ⟨n ρ s h.out⟩
  | rt d s => exact ⟨h.out⟩
  | bk ρ s => exact ⟨h.out⟩
  | ct ρ s => exact ⟨h.out⟩
  | ex x ρ s => exact ⟨h.out⟩
  | bad => exact h.out.elim
/-! ### defs -/
theorem w_run {T : List DefI} {k : Nat} {d : DefI} {ds : List D} (l : ds.length = d.ps.length) (h : wf (exSs (tb T k) d.ir (startD d.N.length ds) s) (fun _ s1 => Q .non s1) Q (fun _ _ => False) (fun _ _ => False) fun x _ s1 => X x s1) : wp (runD T (k + 1) d ds s) Q X := by
  rw [runD_succ]
  unfold runFd
  rw [if_pos l]
  dsimp only
  cases e : exSs (tb T k) d.ir (startD d.N.length ds) s with
  | nx ρ1 s1 => rw [e] at h; first | exact h | exact ⟨h⟩ | exact h.out | exact ⟨h.out⟩
  | rt d s1 => rw [e] at h; first | exact h | exact ⟨h⟩ | exact h.out | exact ⟨h.out⟩
  | bk ρ1 s1 => rw [e] at h; exact h.out.elim
  | ct ρ1 s1 => rw [e] at h; exact h.out.elim
  | ex x ρ1 s1 => rw [e] at h; first | exact h | exact ⟨h⟩ | exact h.out | exact ⟨h.out⟩
  | bad => rw [e] at h; exact h.out.elim
theorem w_tbc {T : List DefI} {k : Nat} {d : DefI} {f : Str} {ds : List D} (e : T.find? (fun (e : DefI) => e.name == f) = some d) (h : wp (runD T k d (d.fill ds) s) Q X) : wp ((tb T k).call f ds s) Q X := by
  show wp ((match T.find? (fun (e : DefI) => e.name == f) with
    | some e => runD T k e (e.fill ds)
    | none => badM) s) Q X
  rw [e]
  first | exact h | exact ⟨h⟩ | exact h.out | exact ⟨h.out⟩
theorem w_tbk {T : List DefI} {k : Nat} {d : DefI} {f : Str} {ks : List Str} {ds ws : List D} (e : T.find? (fun (e : DefI) => e.name == f) = some d) (h : wp (runD T k d (kwAll d.ps d.lo ks ds d.dfl ws) s) Q X) : wp ((tb T k).callk f ks ds ws s) Q X := by
  show wp ((match T.find? (fun (e : DefI) => e.name == f) with
    | some e => runD T k e (kwAll e.ps e.lo ks ds e.dfl ws)
    | none => badM) s) Q X
  rw [e]
  first | exact h | exact ⟨h⟩ | exact h.out | exact ⟨h.out⟩
end
/-! ### stores that grow -/
theorem atI_lt {α : Type} {l : List α} {i : Int} (h0 : 0 ≤ i) (h : i < l.length) : ∃ a ∈ l, atI l i = some a := by
  have hn : i.toNat < l.length := by omega
  refine ⟨l[i.toNat], List.getElem_mem hn, ?_⟩
  unfold atI ixN
  rw [if_pos h0, if_pos h, Option.bind_some, List.getElem?_eq_getElem hn]
theorem atI_nat {α : Type} {l : List α} {n : Nat} {a : α} (h : l[n]? = some a) : atI l (n : Int) = some a := by
  have hn := (List.getElem?_eq_some_iff.mp h).1
  unfold atI ixN
  rw [if_pos (Int.natCast_nonneg n), if_pos (by omega), Option.bind_some, Int.toNat_natCast, h]
theorem fmod_bd {a b : Int} (h : 0 < b) : 0 ≤ a.fmod b ∧ a.fmod b < b := ⟨Int.fmod_nonneg_of_pos a h, Int.fmod_lt_of_pos a h⟩
def Ext (s s' : Store) : Prop := ∃ t, s' = s ++ t
theorem Ext.refl (s : Store) : Ext s s := ⟨[], by simp⟩
theorem Ext.trans {s s1 s2 : Store} (a : Ext s s1) (b : Ext s1 s2) : Ext s s2 := by
  obtain ⟨t, rfl⟩ := a
  obtain ⟨u, rfl⟩ := b
  exact ⟨t ++ u, by rw [List.append_assoc]⟩
theorem Ext.app (s t : Store) : Ext s (s ++ t) := ⟨t, rfl⟩
theorem Ext.get {s s1 : Store} (a : Ext s s1) {n : Nat} {o : O} (h : s[n]? = some o) : s1[n]? = some o := by
  obtain ⟨t, rfl⟩ := a
  rw [List.getElem?_append_left (List.getElem?_eq_some_iff.mp h).1]
  exact h
theorem Ext.lst {s s1 : Store} (a : Ext s s1) {d : D} {l : List D} (h : lstOf s d = some l) : lstOf s1 d = some l := by
  cases d with
  | ref n =>
    have h' : (match s[n]? with
      | some (.lst l) => some l
      | some (.ro l) => some l
      | _ => none) = some l := h
    show (match s1[n]? with
      | some (.lst l) => some l
      | some (.ro l) => some l
      | _ => none) = some l
    cases e : s[n]? with
    | none => rw [e] at h'; cases h'
    | some o =>
      rw [a.get e]
      rw [e] at h'
      exact h'
  | _ => cases h
theorem Ext.seq {s s1 : Store} (a : Ext s s1) {d : D} {l : List D} (h : seqOf s d = some l) : seqOf s1 d = some l := by
  cases d with
  | tup k => exact h
  | ref n =>
    have h' : lstOf s (.ref n) = some l := h
    have g := a.lst h'
    exact g
  | _ => cases h
theorem Ext.set {s s1 : Store} {n : Nat} {o : O} (a : Ext s s1) (h : s.length ≤ n) : Ext s (s1.set n o) := by
  obtain ⟨t, rfl⟩ := a
  exact ⟨t.set (n - s.length) o, by rw [List.set_append_right _ _ h]⟩
theorem Ext.len {s s1 : Store} (a : Ext s s1) : s.length ≤ s1.length := by
  obtain ⟨t, rfl⟩ := a
  simp
theorem get_new (s : Store) (o : O) : (s ++ [o])[s.length]? = some o := by simp
theorem lst_new (s : Store) (l : List D) : lstOf (s ++ [.lst l]) (.ref s.length) = some l := by
  show (match (s ++ [O.lst l])[s.length]? with
    | some (.lst l) => some l
    | some (.ro l) => some l
    | _ => none) = some l
  rw [get_new]
theorem lst_at {s : Store} {n : Nat} {l : List D} (h : s[n]? = some (.lst l)) : lstOf s (.ref n) = some l := by
  show (match s[n]? with
    | some (.lst l) => some l
    | some (.ro l) => some l
    | _ => none) = some l
  rw [h]
end RI
local macro_rules | `(tactic| walk_at "ri") => `(tactic| first
  | with_reducible refine RI.f_cons ?_
  | with_reducible refine RI.f_nil ?_
  | with_reducible refine RI.f_asg ?_
  | with_reducible refine RI.f_ret ?_
  | with_reducible refine RI.f_ife ?_
  | with_reducible refine RI.f_expr ?_
  | with_reducible refine RI.f_raise ?_
  | with_reducible refine RI.f_brk ?_
  | with_reducible refine RI.f_try ?_
  | with_reducible refine RI.w_c ?_
  | ((with_reducible apply RI.w_var); exact rfl)
  | with_reducible refine RI.w_nil ?_
  | with_reducible refine RI.w_cons ?_
  | with_reducible refine RI.w_tup ?_
  | with_reducible refine RI.w_tupK rfl ?_
  | with_reducible refine RI.w_lst ?_
  | with_reducible refine RI.w_lstK rfl ?_
  | with_reducible refine RI.w_bin ?_
  | with_reducible refine RI.w_add ?_
  | with_reducible refine RI.w_sub ?_
  | with_reducible refine RI.w_neg ?_
  | with_reducible refine RI.w_negK ?_
  | with_reducible refine RI.w_cmp ?_
  | with_reducible refine RI.w_lt ?_
  | with_reducible refine RI.w_le ?_
  | with_reducible refine RI.w_gt ?_
  | with_reducible refine RI.w_ge ?_
  | with_reducible refine RI.w_eqI ?_
  | with_reducible refine RI.w_neI ?_
  | with_reducible refine RI.w_eqB ?_
  | with_reducible refine RI.w_neB ?_
  | with_reducible refine RI.w_trB ?_
  | with_reducible refine RI.w_trI ?_
  | with_reducible refine RI.w_and ?_
  | with_reducible refine RI.w_or ?_
  | with_reducible refine RI.w_not ?_
  | with_reducible refine RI.w_ite ?_
  | with_reducible refine RI.w_ix ?_
  | ((with_reducible apply RI.w_ixS); (first | assumption | exact rfl); exact rfl)
  | with_reducible refine RI.w_call ?_
  | with_reducible refine RI.w_callk ?_
  | with_reducible refine RI.w_bi ?_
  | with_reducible refine RI.w_abs ?_
  | with_reducible refine RI.w_gcd ?_
  | with_reducible refine RI.w_intI ?_
  | with_reducible refine RI.w_intB ?_
  | with_reducible refine RI.w_isi ?_
  | ((with_reducible refine RI.w_isiK_t ?_ ?_); focus (exact rfl))
  | ((with_reducible refine RI.w_isiK_f ?_ ?_); focus (exact rfl))
  | with_reducible refine RI.br_n ?_
  | with_reducible refine RI.br_t ?_
  | with_reducible refine RI.br_f ?_
  | with_reducible refine RI.f_cnt ?_
  | with_reducible refine RI.f_pass ?_
  | with_reducible refine RI.f_retN ?_
  | with_reducible refine RI.w_truM ?_
  | with_reducible refine RI.w_irng ?_
  | with_reducible refine RI.w_iseq ?_
  | with_reducible refine RI.w_dic ?_
  | with_reducible refine RI.w_app ?_
  | with_reducible refine RI.w_isN ?_
  | with_reducible refine RI.w_isNN ?_
  | ((with_reducible apply RI.w_exis_t); exact rfl; exact rfl; exact rfl)
  | ((with_reducible apply RI.w_exis_f); exact rfl; exact rfl; exact rfl))
set_option maxRecDepth 100000
set_option maxHeartbeats 4000000
namespace RK00
open PySem L2 PyProof.Rows RI
instance theXs : Xs where
  names := ["NoAmount"]
  sub := fun _ t => !(t == ("NotPlain" : Str))
def d_is_whole : DefI where
  name := "is_whole"
  ps := ["value"]
  N := ["value"]
  ir := (.of [
  .ret (.and (.isi (.var 0) .int) (.not (.isi (.var 0) .bool)))])
def d_amount : DefI where
  name := "amount"
  ps := ["top", "bottom"]
  N := ["top", "bottom", "divisor"]
  dfl := [(.int 1)]
  kws := [(1, ["bottom"])]
  ir := (.of [
  .ife (.cmp .Eq (.var 1) (.c (.int 0))) (.of [
   .raise "NoAmount" .nil]) (.of [
]),
  .asg (.name 2) (.bi .gcd (.of [(.var 0), (.var 1)])),
  .ife (.cmp .Lt (.var 1) (.c (.int 0))) (.of [
   .asg (.name 2) (.neg (.var 2))]) (.of [
]),
  .ret (.tup (.of [(.bin .FloorDiv (.var 0) (.var 2)), (.bin .FloorDiv (.var 1) (.var 2))]))])
def d_is_amount : DefI where
  name := "is_amount"
  ps := ["value"]
  N := ["value"]
  ir := (.of [
  .ife (.or (.not (.isi (.var 0) .tuple)) (.cmp .NotEq (.bi .len (.of [(.var 0)])) (.c (.int 2)))) (.of [
   .ret (.c (.bl false))]) (.of [
]),
  .ife (.or (.not (.call "is_whole" (.of [(.ix (.var 0) (.c (.int 0)))]))) (.not (.call "is_whole" (.of [(.ix (.var 0) (.c (.int 1)))])))) (.of [
   .ret (.c (.bl false))]) (.of [
]),
  .ret (.and (.cmp .GtE (.ix (.var 0) (.c (.int 1))) (.c (.int 1))) (.cmp .Eq (.bi .gcd (.of [(.ix (.var 0) (.c (.int 0))), (.ix (.var 0) (.c (.int 1)))])) (.c (.int 1))))])
def d_plus : DefI where
  name := "plus"
  ps := ["one", "two"]
  N := ["one", "two"]
  ir := (.of [
  .ret (.call "amount" (.of [(.bin .Add (.bin .Mult (.ix (.var 0) (.c (.int 0))) (.ix (.var 1) (.c (.int 1)))) (.bin .Mult (.ix (.var 1) (.c (.int 0))) (.ix (.var 0) (.c (.int 1))))), (.bin .Mult (.ix (.var 0) (.c (.int 1))) (.ix (.var 1) (.c (.int 1))))]))])
def d_minus : DefI where
  name := "minus"
  ps := ["one", "two"]
  N := ["one", "two"]
  ir := (.of [
  .ret (.call "amount" (.of [(.bin .Sub (.bin .Mult (.ix (.var 0) (.c (.int 0))) (.ix (.var 1) (.c (.int 1)))) (.bin .Mult (.ix (.var 1) (.c (.int 0))) (.ix (.var 0) (.c (.int 1))))), (.bin .Mult (.ix (.var 0) (.c (.int 1))) (.ix (.var 1) (.c (.int 1))))]))])
def d_times : DefI where
  name := "times"
  ps := ["one", "two"]
  N := ["one", "two"]
  ir := (.of [
  .ret (.call "amount" (.of [(.bin .Mult (.ix (.var 0) (.c (.int 0))) (.ix (.var 1) (.c (.int 0)))), (.bin .Mult (.ix (.var 0) (.c (.int 1))) (.ix (.var 1) (.c (.int 1))))]))])
def d_over : DefI where
  name := "over"
  ps := ["one", "two"]
  N := ["one", "two"]
  ir := (.of [
  .ret (.call "amount" (.of [(.bin .Mult (.ix (.var 0) (.c (.int 0))) (.ix (.var 1) (.c (.int 1)))), (.bin .Mult (.ix (.var 0) (.c (.int 1))) (.ix (.var 1) (.c (.int 0))))]))])
def d_compare : DefI where
  name := "compare"
  ps := ["one", "two"]
  N := ["one", "two", "left", "right"]
  ir := (.of [
  .asg (.name 2) (.bin .Mult (.ix (.var 0) (.c (.int 0))) (.ix (.var 1) (.c (.int 1)))),
  .asg (.name 3) (.bin .Mult (.ix (.var 1) (.c (.int 0))) (.ix (.var 0) (.c (.int 1)))),
  .ife (.cmp .Lt (.var 2) (.var 3)) (.of [
   .ret (.neg (.c (.int 1)))]) (.of [
]),
  .ife (.cmp .Gt (.var 2) (.var 3)) (.of [
   .ret (.c (.int 1))]) (.of [
]),
  .ret (.c (.int 0))])
def d_law_whole : DefI where
  name := "_law_whole"
  ps := ["_law_value"]
  N := ["_law_value"]
  ir := (.of [
  .ret (.and (.isi (.var 0) .int) (.not (.isi (.var 0) .bool)))])
def d_law_cell : DefI where
  name := "_law_cell"
  ps := ["_law_script", "_law_k"]
  N := ["_law_script", "_law_k", "_law_seed", "_law_cell_here"]
  ir := (.of [
  .ife (.cmp .Lt (.var 1) (.bi .len (.of [(.var 0)]))) (.of [
   .ret (.ix (.var 0) (.var 1))]) (.of [
]),
  .asg (.name 2) (.c (.int 17)),
  .for (.name 3) (.seq (.var 0)) (.of [
   .asg (.name 2) (.bin .Mod (.bi .int (.of [(.bin .Add (.bin .Mult (.var 2) (.c (.int 31))) (.bin .Mod (.bi .int (.of [(.var 3)])) (.c (.int 1000003))))])) (.c (.int 1000003)))]),
  .ret (.bin .Mod (.bi .int (.of [(.bin .Mult (.bin .Mult (.bin .Add (.var 2) (.c (.int 7))) (.bin .Add (.var 1) (.c (.int 3)))) (.c (.int 69621)))])) (.c (.int 2147483647)))])
def d_law_row : DefI where
  name := "_law_row"
  ps := ["_law_cell_here", "_law_many"]
  N := ["_law_cell_here", "_law_many", "_law_row_here", "_law_rest", "_law_seed", "_law_k", "_law_digit"]
  ir := (.of [
  .asg (.name 2) (.lst (.of [])),
  .asg (.name 3) (.bin .Sub (.bi .int (.of [(.var 0)])) (.bin .Pow (.c (.int 10)) (.c (.int 18)))),
  .asg (.name 4) (.bin .Mod (.bi .int (.of [(.var 0)])) (.c (.int 2147483629))),
  .for (.name 5) (.rng1 (.var 1)) (.of [
   .asg (.name 4) (.bin .Mod (.bi .int (.of [(.bin .Add (.bin .Add (.bin .Mult (.var 4) (.c (.int 48271))) (.bin .Mult (.c (.int 974711)) (.var 5))) (.c (.int 12345)))])) (.c (.int 2147483647))),
   .asg (.name 6) (.bin .FloorDiv (.bin .Mod (.bi .int (.of [(.bin .Mult (.var 4) (.bin .Add (.bin .FloorDiv (.var 4) (.c (.int 65537))) (.c (.int 3))))])) (.c (.int 2147483629))) (.c (.int 19))),
   .ife (.cmp .GtE (.var 0) (.bin .Pow (.c (.int 10)) (.c (.int 18)))) (.of [
    .asg (.name 6) (.var 3),
    .asg (.name 3) (.bin .FloorDiv (.var 3) (.c (.int 60)))]) (.of [
]),
   .expr (.meth (.var 2) .append (.of [(.bin .Mod (.bi .int (.of [(.var 6)])) (.c (.int 60)))]))]),
  .ret (.var 2)])
def d_law_number : DefI where
  name := "_law_number"
  ps := ["_law_cell_here"]
  N := ["_law_cell_here", "_law_row_here", "_law_number_here", "_law_k"]
  ir := (.of [
  .ife (.cmp .GtE (.var 0) (.bin .Pow (.c (.int 10)) (.c (.int 18)))) (.of [
   .ret (.bin .Sub (.bin .Mod (.bi .int (.of [(.var 0)])) (.bin .Sub (.bin .Mult (.c (.int 2)) (.bin .Pow (.c (.int 10)) (.c (.int 30)))) (.c (.int 1)))) (.bin .Sub (.bin .Pow (.c (.int 10)) (.c (.int 30))) (.c (.int 1))))]) (.of [
]),
  .asg (.name 1) (.call "_law_row" (.of [(.var 0), (.c (.int 14))])),
  .asg (.name 2) (.ix (.var 1) (.c (.int 1))),
  .ife (.cmp .Eq (.bin .Mod (.ix (.var 1) (.c (.int 0))) (.c (.int 6))) (.c (.int 1))) (.of [
   .asg (.name 2) (.bin .Mult (.bin .Mult (.bin .Mult (.ix (.lst (.of [(.c (.int 1)), (.c (.int 2)), (.c (.int 4)), (.c (.int 8)), (.c (.int 16)), (.c (.int 32))])) (.bin .Mod (.ix (.var 1) (.c (.int 1))) (.c (.int 6)))) (.ix (.lst (.of [(.c (.int 1)), (.c (.int 3)), (.c (.int 9)), (.c (.int 27))])) (.bin .Mod (.ix (.var 1) (.c (.int 2))) (.c (.int 4))))) (.ix (.lst (.of [(.c (.int 1)), (.c (.int 5)), (.c (.int 25))])) (.bin .Mod (.ix (.var 1) (.c (.int 3))) (.c (.int 3))))) (.bin .Add (.ix (.var 1) (.c (.int 4))) (.c (.int 1))))]) (.of [
   .ife (.cmp .Eq (.bin .Mod (.ix (.var 1) (.c (.int 0))) (.c (.int 6))) (.c (.int 2))) (.of [
    .asg (.name 2) (.bin .Sub (.bin .Sub (.bin .Pow (.c (.int 10)) (.c (.int 30))) (.c (.int 1))) (.ix (.var 1) (.c (.int 1))))]) (.of [
    .ife (.cmp .Eq (.bin .Mod (.ix (.var 1) (.c (.int 0))) (.c (.int 6))) (.c (.int 3))) (.of [
     .for (.name 3) (.rng1 (.bin .Add (.c (.int 1)) (.bin .Mod (.ix (.var 1) (.c (.int 1))) (.c (.int 15))))) (.of [
      .asg (.name 2) (.bin .Add (.bin .Mult (.var 2) (.c (.int 60))) (.ix (.var 1) (.bin .Add (.c (.int 2)) (.bin .Mod (.var 3) (.c (.int 10))))))])]) (.of [
     .ife (.cmp .Eq (.bin .Mod (.ix (.var 1) (.c (.int 0))) (.c (.int 6))) (.c (.int 4))) (.of [
      .asg (.name 2) (.bin .Mod (.ix (.var 1) (.c (.int 1))) (.c (.int 3)))]) (.of [
])])])]),
  .ret (.bin .Mult (.var 2) (.bin .Sub (.c (.int 1)) (.bin .Mult (.c (.int 2)) (.bin .Mod (.ix (.var 1) (.c (.int 13))) (.c (.int 2))))))])
def d_law_gcd : DefI where
  name := "_law_gcd"
  ps := ["_law_one", "_law_two"]
  N := ["_law_one", "_law_two", "_law_great", "_law_small", "_law_k", "_law_rest"]
  ir := (.of [
  .asg (.name 2) (.bi .abs (.of [(.var 0)])),
  .asg (.name 3) (.bi .abs (.of [(.var 1)])),
  .for (.name 4) (.rng1 (.c (.int 1000000))) (.of [
   .ife (.cmp .Eq (.var 3) (.c (.int 0))) (.of [
    .brk]) (.of [
]),
   .asg (.name 5) (.bin .Mod (.bi .int (.of [(.var 2)])) (.var 3)),
   .asg (.name 2) (.var 3),
   .asg (.name 3) (.var 5)]),
  .ret (.var 2)])
def d_law_amount : DefI where
  name := "_law_amount"
  ps := ["_law_top", "_law_low"]
  N := ["_law_top", "_law_low", "_law_side"]
  ir := (.of [
  .asg (.name 2) (.bin .Mult (.call "_law_gcd" (.of [(.var 0), (.var 1)])) (.bin .Sub (.c (.int 1)) (.bin .Mult (.c (.int 2)) (.bi .int (.of [(.cmp .Lt (.var 1) (.c (.int 0)))]))))),
  .ret (.tup (.of [(.bin .FloorDiv (.var 0) (.var 2)), (.bin .FloorDiv (.var 1) (.var 2))]))])
def d_law_is_amount : DefI where
  name := "_law_is_amount"
  ps := ["_law_value"]
  N := ["_law_value"]
  ir := (.of [
  .ife (.or (.not (.isi (.var 0) .tuple)) (.cmp .NotEq (.bi .len (.of [(.var 0)])) (.c (.int 2)))) (.of [
   .ret (.c (.bl false))]) (.of [
]),
  .ife (.or (.not (.call "_law_whole" (.of [(.ix (.var 0) (.c (.int 0)))]))) (.or (.not (.call "_law_whole" (.of [(.ix (.var 0) (.c (.int 1)))]))) (.cmp .Lt (.ix (.var 0) (.c (.int 1))) (.c (.int 1))))) (.of [
   .ret (.c (.bl false))]) (.of [
]),
  .ret (.cmp .Eq (.call "_law_gcd" (.of [(.ix (.var 0) (.c (.int 0))), (.ix (.var 0) (.c (.int 1)))])) (.c (.int 1)))])
def d_law_told : DefI where
  name := "_law_told"
  ps := ["_law_actual", "_law_top", "_law_low"]
  N := ["_law_actual", "_law_top", "_law_low"]
  ir := (.of [
  .ret (.and (.call "_law_is_amount" (.of [(.var 0)])) (.cmp .Eq (.bin .Mult (.ix (.var 0) (.c (.int 0))) (.var 2)) (.bin .Mult (.var 1) (.ix (.var 0) (.c (.int 1))))))])
def d_law_refused : DefI where
  name := "_law_refused"
  ps := ["_law_one", "_law_two", "_law_quotient"]
  N := ["_law_one", "_law_two", "_law_quotient", "e"]
  ir := (.of [
  .try (.of [
   .ife (.var 2) (.of [
    .expr (.call "over" (.of [(.var 0), (.var 1)]))]) (.of [
    .expr (.call "amount" (.of [(.ix (.var 0) (.c (.int 0))), (.ix (.var 1) (.c (.int 0)))]))])]) "NoAmount" (some 3) (.of [
   .ret (.and (.exis "FormError") (.and (.exis "ValueError") (.not (.exis "NotPlain"))))]),
  .ret (.c (.bl false))])
def d_law_refused_by_base : DefI where
  name := "_law_refused_by_base"
  ps := ["_law_top"]
  N := ["_law_top", "e"]
  ir := (.of [
  .try (.of [
   .expr (.callk "amount" (.of [(.var 0)]) ["bottom"] (.of [(.c (.int 0))]))]) "FormError" (some 1) (.of [
   .ret (.and (.exis "NoAmount") (.exis "ValueError"))]),
  .ret (.c (.bl false))])
def d_law_made : DefI where
  name := "_law_made"
  ps := ["_law_top", "_law_low"]
  N := ["_law_top", "_law_low"]
  ir := (.of [
  .ife (.or (.not (.call "_law_told" (.of [(.call "amount" (.of [(.var 0)])), (.var 0), (.c (.int 1))]))) (.not (.call "_law_refused_by_base" (.of [(.var 0)])))) (.of [
   .ret (.c (.bl false))]) (.of [
]),
  .ife (.cmp .Eq (.var 1) (.c (.int 0))) (.of [
   .ret (.call "_law_refused" (.of [(.tup (.of [(.var 0), (.c (.int 1))])), (.tup (.of [(.var 1), (.c (.int 1))])), (.c (.bl false))]))]) (.of [
]),
  .ret (.and (.call "_law_told" (.of [(.call "amount" (.of [(.var 0), (.var 1)])), (.var 0), (.var 1)])) (.call "_law_told" (.of [(.callk "amount" (.of [(.var 0)]) ["bottom"] (.of [(.var 1)])), (.var 0), (.var 1)])))])
def d_law_operations : DefI where
  name := "_law_operations"
  ps := ["_law_one", "_law_two"]
  N := ["_law_one", "_law_two", "_law_side", "_law_other", "_law_low", "_law_actual"]
  ir := (.of [
  .asg (.name 2) (.bin .Mult (.ix (.var 0) (.c (.int 0))) (.ix (.var 1) (.c (.int 1)))),
  .asg (.name 3) (.bin .Mult (.ix (.var 1) (.c (.int 0))) (.ix (.var 0) (.c (.int 1)))),
  .asg (.name 4) (.bin .Mult (.ix (.var 0) (.c (.int 1))) (.ix (.var 1) (.c (.int 1)))),
  .ife (.or (.not (.call "_law_told" (.of [(.call "plus" (.of [(.var 0), (.var 1)])), (.bin .Add (.var 2) (.var 3)), (.var 4)]))) (.not (.call "_law_told" (.of [(.call "minus" (.of [(.var 0), (.var 1)])), (.bin .Sub (.var 2) (.var 3)), (.var 4)])))) (.of [
   .ret (.c (.bl false))]) (.of [
]),
  .ife (.not (.call "_law_told" (.of [(.call "times" (.of [(.var 0), (.var 1)])), (.bin .Mult (.ix (.var 0) (.c (.int 0))) (.ix (.var 1) (.c (.int 0)))), (.var 4)]))) (.of [
   .ret (.c (.bl false))]) (.of [
]),
  .ife (.cmp .Eq (.var 3) (.c (.int 0))) (.of [
   .ife (.not (.call "_law_refused" (.of [(.var 0), (.var 1), (.c (.bl true))]))) (.of [
    .ret (.c (.bl false))]) (.of [
])]) (.of [
   .ife (.not (.call "_law_told" (.of [(.call "over" (.of [(.var 0), (.var 1)])), (.var 2), (.var 3)]))) (.of [
    .ret (.c (.bl false))]) (.of [
])]),
  .asg (.name 5) (.call "compare" (.of [(.var 0), (.var 1)])),
  .ret (.and (.call "_law_whole" (.of [(.var 5)])) (.cmp .Eq (.var 5) (.bin .Sub (.bi .int (.of [(.cmp .Gt (.var 2) (.var 3))])) (.bi .int (.of [(.cmp .Lt (.var 2) (.var 3))])))))])
def d_law_second : DefI where
  name := "_law_second"
  ps := ["_law_one", "_law_top", "_law_low", "_law_row_here"]
  N := ["_law_one", "_law_top", "_law_low", "_law_row_here", "_law_kind"]
  ir := (.of [
  .asg (.name 4) (.bin .Mod (.ix (.var 3) (.c (.int 1))) (.c (.int 8))),
  .ife (.cmp .Eq (.var 4) (.c (.int 3))) (.of [
   .ret (.var 0)]) (.of [
]),
  .ife (.cmp .Eq (.var 4) (.c (.int 4))) (.of [
   .ret (.tup (.of [(.bin .Sub (.c (.int 0)) (.ix (.var 0) (.c (.int 0)))), (.ix (.var 0) (.c (.int 1)))]))]) (.of [
]),
  .ife (.and (.cmp .Eq (.var 4) (.c (.int 5))) (.and (.cmp .Lt (.bi .abs (.of [(.ix (.var 0) (.c (.int 0)))])) (.bin .Pow (.c (.int 10)) (.c (.int 28)))) (.cmp .Lt (.ix (.var 0) (.c (.int 1))) (.bin .Pow (.c (.int 10)) (.c (.int 28)))))) (.of [
   .ret (.call "_law_amount" (.of [(.bin .Add (.bin .Mult (.ix (.var 0) (.c (.int 0))) (.bin .Add (.c (.int 2)) (.ix (.var 3) (.c (.int 2))))) (.ix (.lst (.of [(.c (.int 1)), (.neg (.c (.int 1)))])) (.bin .Mod (.ix (.var 3) (.c (.int 3))) (.c (.int 2))))), (.bin .Mult (.ix (.var 0) (.c (.int 1))) (.bin .Add (.c (.int 2)) (.ix (.var 3) (.c (.int 2)))))]))]) (.of [
]),
  .ife (.cmp .Eq (.var 4) (.c (.int 6))) (.of [
   .ret (.tup (.of [(.c (.int 0)), (.c (.int 1))]))]) (.of [
]),
  .ife (.cmp .Eq (.var 4) (.c (.int 7))) (.of [
   .ret (.call "_law_amount" (.of [(.var 1), (.ix (.var 0) (.c (.int 1)))]))]) (.of [
]),
  .ret (.call "_law_amount" (.of [(.var 1), (.var 2)]))])
def d_law_values : DefI where
  name := "_law_values"
  ps := ["_law_one", "_law_two", "_law_top", "_law_low", "_law_row_here"]
  N := ["_law_one", "_law_two", "_law_top", "_law_low", "_law_row_here", "_law_values_here"]
  ir := (.of [
  .asg (.name 5) (.lst (.of [(.var 0), (.var 1), (.tup (.of [(.var 2), (.var 3)])), (.tup (.of [(.ix (.var 0) (.c (.int 0))), (.bin .Sub (.c (.int 0)) (.ix (.var 0) (.c (.int 1))))])), (.tup (.of [(.ix (.var 0) (.c (.int 0))), (.c (.int 0))])), (.tup (.of [(.bin .Sub (.c (.int 0)) (.ix (.var 0) (.c (.int 0)))), (.ix (.var 0) (.c (.int 1)))])), (.tup (.of [(.ix (.var 0) (.c (.int 1))), (.ix (.var 0) (.c (.int 0)))]))])),
  .asg (.name 5) (.bin .Add (.var 5) (.lst (.of [(.tup (.of [(.ix (.var 0) (.c (.int 0))), (.ix (.var 0) (.c (.int 1))), (.c (.int 1))])), (.tup (.of [(.ix (.var 0) (.c (.int 0)))])), (.tup (.of [])), (.ix (.var 0) (.c (.int 0))), (.c .non), (.c (.bl true)), (.c (.bl false)), (.c (.str "12")), (.tup (.of [(.ix (.var 0) (.c (.int 0))), (.c (.str "1"))])), (.tup (.of [(.c (.str "1")), (.c (.int 1))]))]))),
  .asg (.name 5) (.bin .Add (.var 5) (.lst (.of [(.tup (.of [(.c (.bl true)), (.ix (.var 0) (.c (.int 1)))])), (.tup (.of [(.ix (.var 0) (.c (.int 0))), (.c (.bl true))])), (.tup (.of [(.c (.bl false)), (.c (.int 1))])), (.tup (.of [(.c (.int 1)), (.c (.bl false))])), (.tup (.of [(.c .non), (.c (.int 1))])), (.tup (.of [(.var 0), (.var 1)])), (.tup (.of [(.var 0)])), (.tup (.of [(.c (.int 0)), (.var 1)]))]))),
  .asg (.name 5) (.bin .Add (.var 5) (.lst (.of [(.dic (.of [])), (.dic (.of [(.c (.int 0)), (.ix (.var 0) (.c (.int 0))), (.c (.int 1)), (.ix (.var 0) (.c (.int 1)))]))]))),
  .ife (.and (.cmp .Lt (.bi .abs (.of [(.ix (.var 0) (.c (.int 0)))])) (.bin .Pow (.c (.int 10)) (.c (.int 28)))) (.cmp .Lt (.ix (.var 0) (.c (.int 1))) (.bin .Pow (.c (.int 10)) (.c (.int 28))))) (.of [
   .expr (.meth (.var 5) .append (.of [(.tup (.of [(.bin .Mult (.ix (.var 0) (.c (.int 0))) (.bin .Add (.c (.int 2)) (.ix (.var 4) (.c (.int 4))))), (.bin .Mult (.ix (.var 0) (.c (.int 1))) (.bin .Add (.c (.int 2)) (.ix (.var 4) (.c (.int 4)))))]))]))]) (.of [
]),
  .ret (.var 5)])
def d_law_judged : DefI where
  name := "_law_judged"
  ps := ["_law_values_here"]
  N := ["_law_values_here", "_law_value", "_law_actual"]
  ir := (.of [
  .for (.name 1) (.seq (.var 0)) (.of [
   .asg (.name 2) (.call "is_amount" (.of [(.var 1)])),
   .ife (.or (.not (.isi (.var 2) .bool)) (.cmp .NotEq (.var 2) (.call "_law_is_amount" (.of [(.var 1)])))) (.of [
    .ret (.c (.bl false))]) (.of [
])]),
  .ret (.c (.bl true))])
def d_law_passed_again : DefI where
  name := "_law_passed_again"
  ps := ["_law_one", "_law_two", "_law_top", "_law_low"]
  N := ["_law_one", "_law_two", "_law_top", "_law_low", "_law_long", "_law_square", "_law_total", "_law_near"]
  ir := (.of [
  .asg (.name 4) (.call "amount" (.of [(.var 2), (.var 3)])),
  .ife (.or (.not (.call "_law_told" (.of [(.var 4), (.var 2), (.var 3)]))) (.not (.call "_law_operations" (.of [(.var 4), (.var 1)])))) (.of [
   .ret (.c (.bl false))]) (.of [
]),
  .asg (.name 5) (.call "times" (.of [(.var 4), (.var 4)])),
  .asg (.name 6) (.call "plus" (.of [(.var 4), (.var 0)])),
  .ife (.not (.call "_law_told" (.of [(.var 5), (.bin .Mult (.ix (.var 4) (.c (.int 0))) (.ix (.var 4) (.c (.int 0)))), (.bin .Mult (.ix (.var 4) (.c (.int 1))) (.ix (.var 4) (.c (.int 1))))]))) (.of [
   .ret (.c (.bl false))]) (.of [
]),
  .ife (.not (.call "_law_told" (.of [(.var 6), (.bin .Add (.bin .Mult (.ix (.var 4) (.c (.int 0))) (.ix (.var 0) (.c (.int 1)))) (.bin .Mult (.ix (.var 0) (.c (.int 0))) (.ix (.var 4) (.c (.int 1))))), (.bin .Mult (.ix (.var 4) (.c (.int 1))) (.ix (.var 0) (.c (.int 1))))]))) (.of [
   .ret (.c (.bl false))]) (.of [
]),
  .asg (.name 7) (.lst (.of [(.tup (.of [(.ix (.var 5) (.c (.int 0))), (.bin .Sub (.c (.int 0)) (.ix (.var 5) (.c (.int 1))))])), (.tup (.of [(.bin .Mult (.c (.int 2)) (.ix (.var 6) (.c (.int 0)))), (.bin .Mult (.c (.int 2)) (.ix (.var 6) (.c (.int 1))))])), (.tup (.of [(.ix (.var 4) (.c (.int 0))), (.c (.int 0))])), (.tup (.of [(.bin .Mult (.ix (.var 4) (.c (.int 0))) (.c (.int 3))), (.bin .Mult (.ix (.var 4) (.c (.int 1))) (.c (.int 3)))]))])),
  .ret (.and (.call "_law_judged" (.of [(.bin .Add (.lst (.of [(.var 4), (.var 5), (.var 6)])) (.var 7))])) (.call "_law_operations" (.of [(.var 6), (.var 5)])))])
def d_law : DefI where
  name := "law"
  ps := ["_law_script"]
  N := ["_law_script", "_law_row_here", "_law_tops", "_law_lows", "_law_k", "_law_one", "_law_two", "_law_size", "_law_listed", "_law_top", "_law_low"]
  ir := (.of [
  .asg (.name 1) (.call "_law_row" (.of [(.call "_law_cell" (.of [(.var 0), (.c (.int 4))])), (.c (.int 8))])),
  .asg (.name 2) (.lst (.of [(.call "_law_number" (.of [(.call "_law_cell" (.of [(.var 0), (.c (.int 0))]))])), (.call "_law_number" (.of [(.call "_law_cell" (.of [(.var 0), (.c (.int 2))]))]))])),
  .asg (.name 3) (.lst (.of [(.call "_law_number" (.of [(.call "_law_cell" (.of [(.var 0), (.c (.int 1))]))])), (.call "_law_number" (.of [(.call "_law_cell" (.of [(.var 0), (.c (.int 3))]))]))])),
  .ife (.cmp .Eq (.bin .Mod (.ix (.var 1) (.c (.int 0))) (.c (.int 8))) (.c (.int 3))) (.of [
   .seti (.var 3) (.bin .Mod (.ix (.var 1) (.c (.int 5))) (.c (.int 2))) (.c (.int 0))]) (.of [
]),
  .for (.name 4) (.rng1 (.c (.int 2))) (.of [
   .ife (.not (.call "_law_made" (.of [(.ix (.var 2) (.var 4)), (.ix (.var 3) (.var 4))]))) (.of [
    .ret (.c (.bl false))]) (.of [
])]),
  .asg (.name 5) (.call "_law_amount" (.of [(.ix (.var 2) (.c (.int 0))), (.bin .Add (.ix (.var 3) (.c (.int 0))) (.bi .int (.of [(.cmp .Eq (.ix (.var 3) (.c (.int 0))) (.c (.int 0)))])))])),
  .asg (.name 6) (.call "_law_second" (.of [(.var 5), (.ix (.var 2) (.c (.int 1))), (.bin .Add (.ix (.var 3) (.c (.int 1))) (.bi .int (.of [(.cmp .Eq (.ix (.var 3) (.c (.int 1))) (.c (.int 0)))]))), (.var 1)])),
  .asg (.name 7) (.bin .Add (.ix (.var 2) (.c (.int 1))) (.bi .int (.of [(.cmp .Eq (.ix (.var 2) (.c (.int 1))) (.c (.int 0)))]))),
  .ife (.not (.call "_law_told" (.of [(.call "amount" (.of [(.bin .Mult (.ix (.var 5) (.c (.int 0))) (.var 7)), (.bin .Mult (.ix (.var 5) (.c (.int 1))) (.var 7))])), (.ix (.var 5) (.c (.int 0))), (.ix (.var 5) (.c (.int 1)))]))) (.of [
   .ret (.c (.bl false))]) (.of [
]),
  .asg (.name 8) (.lst (.of [(.bi .list (.of [(.var 5)])), (.bi .list (.of [(.var 6)])), (.lst (.of [(.c (.int 0)), (.c (.int 1))]))])),
  .ife (.or (.not (.call "_law_operations" (.of [(.var 5), (.var 6)]))) (.or (.not (.call "_law_operations" (.of [(.var 6), (.var 5)]))) (.not (.call "_law_operations" (.of [(.var 5), (.ix (.var 8) (.c (.int 2)))]))))) (.of [
   .ret (.c (.bl false))]) (.of [
]),
  .ife (.or (.not (.call "_law_refused" (.of [(.tup (.of [(.c (.int 0)), (.c (.int 1))])), (.tup (.of [(.c (.int 0)), (.c (.int 1))])), (.c (.bl false))]))) (.not (.call "_law_refused" (.of [(.tup (.of [(.c (.int 0)), (.c (.int 1))])), (.tup (.of [(.c (.int 0)), (.c (.int 1))])), (.c (.bl true))])))) (.of [
   .ret (.c (.bl false))]) (.of [
]),
  .ife (.or (.not (.call "_law_operations" (.of [(.ix (.var 8) (.c (.int 0))), (.var 6)]))) (.not (.call "_law_operations" (.of [(.ix (.var 8) (.c (.int 1))), (.ix (.var 8) (.c (.int 0)))])))) (.of [
   .ret (.c (.bl false))]) (.of [
]),
  .ife (.cmp .NotEq (.var 8) (.lst (.of [(.lst (.of [(.ix (.var 5) (.c (.int 0))), (.ix (.var 5) (.c (.int 1)))])), (.lst (.of [(.ix (.var 6) (.c (.int 0))), (.ix (.var 6) (.c (.int 1)))])), (.lst (.of [(.c (.int 0)), (.c (.int 1))]))]))) (.of [
   .ret (.c (.bl false))]) (.of [
]),
  .ife (.not (.call "_law_judged" (.of [(.call "_law_values" (.of [(.var 5), (.var 6), (.ix (.var 2) (.c (.int 1))), (.ix (.var 3) (.c (.int 1))), (.var 1)]))]))) (.of [
   .ret (.c (.bl false))]) (.of [
]),
  .asg (.name 9) (.bin .Add (.bin .Add (.bin .Mult (.ix (.var 2) (.c (.int 0))) (.bin .Pow (.c (.int 10)) (.c (.int 40)))) (.c (.int 1))) (.ix (.var 1) (.c (.int 6)))),
  .asg (.name 10) (.bin .Add (.bin .Add (.ix (.lst (.of [(.bin .Pow (.c (.int 10)) (.c (.int 40))), (.bin .Pow (.c (.int 10)) (.c (.int 45))), (.bin .Pow (.c (.int 10)) (.c (.int 50))), (.bin .Pow (.c (.int 10)) (.c (.int 55)))])) (.bin .Mod (.ix (.var 1) (.c (.int 7))) (.c (.int 4)))) (.bin .Mult (.ix (.var 3) (.c (.int 1))) (.ix (.var 3) (.c (.int 1))))) (.bin .FloorDiv (.ix (.var 1) (.c (.int 6))) (.c (.int 2)))),
  .ret (.and (.call "_law_passed_again" (.of [(.var 5), (.var 6), (.var 9), (.var 10)])) (.call "_law_operations" (.of [(.var 5), (.var 6)])))])
def tab : List DefI := [d_is_whole, d_amount, d_is_amount, d_plus, d_minus, d_times, d_over, d_compare, d_law_whole, d_law_cell, d_law_row, d_law_number, d_law_gcd, d_law_amount, d_law_is_amount, d_law_told, d_law_refused, d_law_refused_by_base, d_law_made, d_law_operations, d_law_second, d_law_values, d_law_judged, d_law_passed_again, d_law]
def glb : Glb := ⟨[.abs, .gcd, .int, .len, .list], true, ["FormError", "NoAmount", "NotPlain", "ValueError"], ["NoAmount"], true⟩
def top (i : Nat) : Stmt := PySem.Challenge.pw_takenforms_k00_amounts.main.body.getD i (.Pass ⟨0, 0, 0, 0⟩)
abbrev e_is_whole : He.DefD := ⟨("is_whole", none), "is_whole", "is_whole", defArgs (top 6), defBody (top 6), defScope (top 6), [], []⟩
abbrev e_amount : He.DefD := ⟨("amount", none), "amount", "amount", defArgs (top 7), defBody (top 7), defScope (top 7), [.int 1], []⟩
abbrev e_is_amount : He.DefD := ⟨("is_amount", none), "is_amount", "is_amount", defArgs (top 8), defBody (top 8), defScope (top 8), [], []⟩
abbrev e_plus : He.DefD := ⟨("plus", none), "plus", "plus", defArgs (top 9), defBody (top 9), defScope (top 9), [], []⟩
abbrev e_minus : He.DefD := ⟨("minus", none), "minus", "minus", defArgs (top 10), defBody (top 10), defScope (top 10), [], []⟩
abbrev e_times : He.DefD := ⟨("times", none), "times", "times", defArgs (top 11), defBody (top 11), defScope (top 11), [], []⟩
abbrev e_over : He.DefD := ⟨("over", none), "over", "over", defArgs (top 12), defBody (top 12), defScope (top 12), [], []⟩
abbrev e_compare : He.DefD := ⟨("compare", none), "compare", "compare", defArgs (top 13), defBody (top 13), defScope (top 13), [], []⟩
abbrev e_law_whole : He.DefD := ⟨("_law_whole", none), "_law_whole", "_law_whole", defArgs (top 15), defBody (top 15), defScope (top 15), [], []⟩
abbrev e_law_cell : He.DefD := ⟨("_law_cell", none), "_law_cell", "_law_cell", defArgs (top 16), defBody (top 16), defScope (top 16), [], []⟩
abbrev e_law_row : He.DefD := ⟨("_law_row", none), "_law_row", "_law_row", defArgs (top 17), defBody (top 17), defScope (top 17), [], []⟩
abbrev e_law_number : He.DefD := ⟨("_law_number", none), "_law_number", "_law_number", defArgs (top 18), defBody (top 18), defScope (top 18), [], []⟩
abbrev e_law_gcd : He.DefD := ⟨("_law_gcd", none), "_law_gcd", "_law_gcd", defArgs (top 19), defBody (top 19), defScope (top 19), [], []⟩
abbrev e_law_amount : He.DefD := ⟨("_law_amount", none), "_law_amount", "_law_amount", defArgs (top 20), defBody (top 20), defScope (top 20), [], []⟩
abbrev e_law_is_amount : He.DefD := ⟨("_law_is_amount", none), "_law_is_amount", "_law_is_amount", defArgs (top 21), defBody (top 21), defScope (top 21), [], []⟩
abbrev e_law_told : He.DefD := ⟨("_law_told", none), "_law_told", "_law_told", defArgs (top 22), defBody (top 22), defScope (top 22), [], []⟩
abbrev e_law_refused : He.DefD := ⟨("_law_refused", none), "_law_refused", "_law_refused", defArgs (top 23), defBody (top 23), defScope (top 23), [], []⟩
abbrev e_law_refused_by_base : He.DefD := ⟨("_law_refused_by_base", none), "_law_refused_by_base", "_law_refused_by_base", defArgs (top 24), defBody (top 24), defScope (top 24), [], []⟩
abbrev e_law_made : He.DefD := ⟨("_law_made", none), "_law_made", "_law_made", defArgs (top 25), defBody (top 25), defScope (top 25), [], []⟩
abbrev e_law_operations : He.DefD := ⟨("_law_operations", none), "_law_operations", "_law_operations", defArgs (top 26), defBody (top 26), defScope (top 26), [], []⟩
abbrev e_law_second : He.DefD := ⟨("_law_second", none), "_law_second", "_law_second", defArgs (top 27), defBody (top 27), defScope (top 27), [], []⟩
abbrev e_law_values : He.DefD := ⟨("_law_values", none), "_law_values", "_law_values", defArgs (top 28), defBody (top 28), defScope (top 28), [], []⟩
abbrev e_law_judged : He.DefD := ⟨("_law_judged", none), "_law_judged", "_law_judged", defArgs (top 29), defBody (top 29), defScope (top 29), [], []⟩
abbrev e_law_passed_again : He.DefD := ⟨("_law_passed_again", none), "_law_passed_again", "_law_passed_again", defArgs (top 30), defBody (top 30), defScope (top 30), [], []⟩
abbrev e_law : He.DefD := ⟨("law", none), "law", "law", defArgs (top 31), defBody (top 31), defScope (top 31), [], []⟩
theorem f_is_whole : Fits tab glb d_is_whole e_is_whole :=
  .plain rfl rfl rfl rfl rfl ⟨rfl, rfl, rfl, by decide +kernel, rfl, by decide +kernel, by decide +kernel⟩ (by decide +kernel) fun _ _ _ _ _ _ us hl => match us, hl with | [_], _ => rfl
theorem f_amount : Fits tab glb d_amount e_amount where
  at_ := rfl
  dv := fun _ => rfl
  kw := rfl
  flat := rfl
  le := by decide
  sc := ⟨rfl, rfl, rfl, by decide +kernel, rfl, by decide +kernel, by decide +kernel⟩
  binds := fun K f fd F i hi => match i, hi with
    | 0, _ => F.binds1 1 0 (List.cons_ne_nil _ _) rfl fun _ _ _ _ _ _ _ us its h1 h2 => match us, its, h1, h2 with | [_], [_], _, _ => ⟨_, rfl, rfl⟩
    | 1, _ => F.binds1 2 1 (List.cons_ne_nil _ _) rfl fun _ _ _ _ _ _ _ us its h1 h2 => match us, its, h1, h2 with | [_, _], [_], _, _ => ⟨_, rfl, rfl⟩
    | i + 2, h => absurd h (by show ¬ (i + 2 ≤ 1); omega)
  kws := fun K f fd F p hp => by
    simp only [d_amount, List.mem_cons, List.not_mem_nil, or_false] at hp
    subst hp
    · exact F.kbindsD 1 ["bottom"] (fun us its ws => kwAll d_amount.ps d_amount.lo ["bottom"] us its ws) (List.cons_ne_nil _ _) (fun r1 r2 r3 => kwAll_vals r1 r2 r3) fun _ _ _ _ _ _ _ us its ws h1 h2 h3 => match us, its, ws, h1, h2, h3 with | [_], [_], [_], _, _, _ => ⟨_, rfl, rfl⟩
  ck := by decide +kernel
theorem f_is_amount : Fits tab glb d_is_amount e_is_amount :=
  .plain rfl rfl rfl rfl rfl ⟨rfl, rfl, rfl, by decide +kernel, rfl, by decide +kernel, by decide +kernel⟩ (by decide +kernel) fun _ _ _ _ _ _ us hl => match us, hl with | [_], _ => rfl
theorem f_plus : Fits tab glb d_plus e_plus :=
  .plain rfl rfl rfl rfl rfl ⟨rfl, rfl, rfl, by decide +kernel, rfl, by decide +kernel, by decide +kernel⟩ (by decide +kernel) fun _ _ _ _ _ _ us hl => match us, hl with | [_, _], _ => rfl
theorem f_minus : Fits tab glb d_minus e_minus :=
  .plain rfl rfl rfl rfl rfl ⟨rfl, rfl, rfl, by decide +kernel, rfl, by decide +kernel, by decide +kernel⟩ (by decide +kernel) fun _ _ _ _ _ _ us hl => match us, hl with | [_, _], _ => rfl
theorem f_times : Fits tab glb d_times e_times :=
  .plain rfl rfl rfl rfl rfl ⟨rfl, rfl, rfl, by decide +kernel, rfl, by decide +kernel, by decide +kernel⟩ (by decide +kernel) fun _ _ _ _ _ _ us hl => match us, hl with | [_, _], _ => rfl
theorem f_over : Fits tab glb d_over e_over :=
  .plain rfl rfl rfl rfl rfl ⟨rfl, rfl, rfl, by decide +kernel, rfl, by decide +kernel, by decide +kernel⟩ (by decide +kernel) fun _ _ _ _ _ _ us hl => match us, hl with | [_, _], _ => rfl
theorem f_compare : Fits tab glb d_compare e_compare :=
  .plain rfl rfl rfl rfl rfl ⟨rfl, rfl, rfl, by decide +kernel, rfl, by decide +kernel, by decide +kernel⟩ (by decide +kernel) fun _ _ _ _ _ _ us hl => match us, hl with | [_, _], _ => rfl
theorem f_law_whole : Fits tab glb d_law_whole e_law_whole :=
  .plain rfl rfl rfl rfl rfl ⟨rfl, rfl, rfl, by decide +kernel, rfl, by decide +kernel, by decide +kernel⟩ (by decide +kernel) fun _ _ _ _ _ _ us hl => match us, hl with | [_], _ => rfl
theorem f_law_cell : Fits tab glb d_law_cell e_law_cell :=
  .plain rfl rfl rfl rfl rfl ⟨rfl, rfl, rfl, by decide +kernel, rfl, by decide +kernel, by decide +kernel⟩ (by decide +kernel) fun _ _ _ _ _ _ us hl => match us, hl with | [_, _], _ => rfl
theorem f_law_row : Fits tab glb d_law_row e_law_row :=
  .plain rfl rfl rfl rfl rfl ⟨rfl, rfl, rfl, by decide +kernel, rfl, by decide +kernel, by decide +kernel⟩ (by decide +kernel) fun _ _ _ _ _ _ us hl => match us, hl with | [_, _], _ => rfl
theorem f_law_number : Fits tab glb d_law_number e_law_number :=
  .plain rfl rfl rfl rfl rfl ⟨rfl, rfl, rfl, by decide +kernel, rfl, by decide +kernel, by decide +kernel⟩ (by decide +kernel) fun _ _ _ _ _ _ us hl => match us, hl with | [_], _ => rfl
theorem f_law_gcd : Fits tab glb d_law_gcd e_law_gcd :=
  .plain rfl rfl rfl rfl rfl ⟨rfl, rfl, rfl, by decide +kernel, rfl, by decide +kernel, by decide +kernel⟩ (by decide +kernel) fun _ _ _ _ _ _ us hl => match us, hl with | [_, _], _ => rfl
theorem f_law_amount : Fits tab glb d_law_amount e_law_amount :=
  .plain rfl rfl rfl rfl rfl ⟨rfl, rfl, rfl, by decide +kernel, rfl, by decide +kernel, by decide +kernel⟩ (by decide +kernel) fun _ _ _ _ _ _ us hl => match us, hl with | [_, _], _ => rfl
theorem f_law_is_amount : Fits tab glb d_law_is_amount e_law_is_amount :=
  .plain rfl rfl rfl rfl rfl ⟨rfl, rfl, rfl, by decide +kernel, rfl, by decide +kernel, by decide +kernel⟩ (by decide +kernel) fun _ _ _ _ _ _ us hl => match us, hl with | [_], _ => rfl
theorem f_law_told : Fits tab glb d_law_told e_law_told :=
  .plain rfl rfl rfl rfl rfl ⟨rfl, rfl, rfl, by decide +kernel, rfl, by decide +kernel, by decide +kernel⟩ (by decide +kernel) fun _ _ _ _ _ _ us hl => match us, hl with | [_, _, _], _ => rfl
theorem f_law_refused : Fits tab glb d_law_refused e_law_refused :=
  .plain rfl rfl rfl rfl rfl ⟨rfl, rfl, rfl, by decide +kernel, rfl, by decide +kernel, by decide +kernel⟩ (by decide +kernel) fun _ _ _ _ _ _ us hl => match us, hl with | [_, _, _], _ => rfl
theorem f_law_refused_by_base : Fits tab glb d_law_refused_by_base e_law_refused_by_base :=
  .plain rfl rfl rfl rfl rfl ⟨rfl, rfl, rfl, by decide +kernel, rfl, by decide +kernel, by decide +kernel⟩ (by decide +kernel) fun _ _ _ _ _ _ us hl => match us, hl with | [_], _ => rfl
theorem f_law_made : Fits tab glb d_law_made e_law_made :=
  .plain rfl rfl rfl rfl rfl ⟨rfl, rfl, rfl, by decide +kernel, rfl, by decide +kernel, by decide +kernel⟩ (by decide +kernel) fun _ _ _ _ _ _ us hl => match us, hl with | [_, _], _ => rfl
theorem f_law_operations : Fits tab glb d_law_operations e_law_operations :=
  .plain rfl rfl rfl rfl rfl ⟨rfl, rfl, rfl, by decide +kernel, rfl, by decide +kernel, by decide +kernel⟩ (by decide +kernel) fun _ _ _ _ _ _ us hl => match us, hl with | [_, _], _ => rfl
theorem f_law_second : Fits tab glb d_law_second e_law_second :=
  .plain rfl rfl rfl rfl rfl ⟨rfl, rfl, rfl, by decide +kernel, rfl, by decide +kernel, by decide +kernel⟩ (by decide +kernel) fun _ _ _ _ _ _ us hl => match us, hl with | [_, _, _, _], _ => rfl
theorem f_law_values : Fits tab glb d_law_values e_law_values :=
  .plain rfl rfl rfl rfl rfl ⟨rfl, rfl, rfl, by decide +kernel, rfl, by decide +kernel, by decide +kernel⟩ (by decide +kernel) fun _ _ _ _ _ _ us hl => match us, hl with | [_, _, _, _, _], _ => rfl
theorem f_law_judged : Fits tab glb d_law_judged e_law_judged :=
  .plain rfl rfl rfl rfl rfl ⟨rfl, rfl, rfl, by decide +kernel, rfl, by decide +kernel, by decide +kernel⟩ (by decide +kernel) fun _ _ _ _ _ _ us hl => match us, hl with | [_], _ => rfl
theorem f_law_passed_again : Fits tab glb d_law_passed_again e_law_passed_again :=
  .plain rfl rfl rfl rfl rfl ⟨rfl, rfl, rfl, by decide +kernel, rfl, by decide +kernel, by decide +kernel⟩ (by decide +kernel) fun _ _ _ _ _ _ us hl => match us, hl with | [_, _, _, _], _ => rfl
theorem f_law : Fits tab glb d_law e_law :=
  .plain rfl rfl rfl rfl rfl ⟨rfl, rfl, rfl, by decide +kernel, rfl, by decide +kernel, by decide +kernel⟩ (by decide +kernel) fun _ _ _ _ _ _ us hl => match us, hl with | [_], _ => rfl
def fns : List He.DefD := [e_is_whole, e_amount, e_is_amount, e_plus, e_minus, e_times, e_over, e_compare, e_law_whole, e_law_cell, e_law_row, e_law_number, e_law_gcd, e_law_amount, e_law_is_amount, e_law_told, e_law_refused, e_law_refused_by_base, e_law_made, e_law_operations, e_law_second, e_law_values, e_law_judged, e_law_passed_again, e_law]
theorem fitsAll : FitsAll tab glb tab fns := (.cons f_is_whole (.cons f_amount (.cons f_is_amount (.cons f_plus (.cons f_minus (.cons f_times (.cons f_over (.cons f_compare (.cons f_law_whole (.cons f_law_cell (.cons f_law_row (.cons f_law_number (.cons f_law_gcd (.cons f_law_amount (.cons f_law_is_amount (.cons f_law_told (.cons f_law_refused (.cons f_law_refused_by_base (.cons f_law_made (.cons f_law_operations (.cons f_law_second (.cons f_law_values (.cons f_law_judged (.cons f_law_passed_again (.cons f_law .nil)))))))))))))))))))))))))
theorem uniqTab : uniq tab := uniq_of (by decide +kernel)
end RK00
set_option maxRecDepth 100000
set_option maxHeartbeats 4000000
namespace RK00
open PySem L2 RI
theorem run_is_whole {k : Nat} {s : Store} {Q : D → Store → Prop} {X : Exn → Store → Prop} {a0 : D} (h : wf (exSs (tb tab k) d_is_whole.ir [some a0] s) (fun _ s1 => Q .non s1) Q (fun _ _ => False) (fun _ _ => False) fun x _ s1 => X x s1) : wp (runD tab (k + 1) d_is_whole [a0] s) Q X := w_run rfl h
theorem call_is_whole {k : Nat} {s : Store} {Q : D → Store → Prop} {X : Exn → Store → Prop} {a0 : D} (h : wp (runD tab k d_is_whole [a0] s) Q X) : wp ((tb tab k).call "is_whole" [a0] s) Q X := w_tbc rfl h
theorem run_amount {k : Nat} {s : Store} {Q : D → Store → Prop} {X : Exn → Store → Prop} {a0 a1 : D} (h : wf (exSs (tb tab k) d_amount.ir [some a0, some a1, none] s) (fun _ s1 => Q .non s1) Q (fun _ _ => False) (fun _ _ => False) fun x _ s1 => X x s1) : wp (runD tab (k + 1) d_amount [a0, a1] s) Q X := w_run rfl h
theorem call_amount {k : Nat} {s : Store} {Q : D → Store → Prop} {X : Exn → Store → Prop} {a0 a1 : D} (h : wp (runD tab k d_amount [a0, a1] s) Q X) : wp ((tb tab k).call "amount" [a0, a1] s) Q X := w_tbc rfl h
theorem call_amount_1 {k : Nat} {s : Store} {Q : D → Store → Prop} {X : Exn → Store → Prop} {a0 : D} (h : wp (runD tab k d_amount (d_amount.fill [a0]) s) Q X) : wp ((tb tab k).call "amount" [a0] s) Q X := w_tbc rfl h
theorem run_is_amount {k : Nat} {s : Store} {Q : D → Store → Prop} {X : Exn → Store → Prop} {a0 : D} (h : wf (exSs (tb tab k) d_is_amount.ir [some a0] s) (fun _ s1 => Q .non s1) Q (fun _ _ => False) (fun _ _ => False) fun x _ s1 => X x s1) : wp (runD tab (k + 1) d_is_amount [a0] s) Q X := w_run rfl h
theorem call_is_amount {k : Nat} {s : Store} {Q : D → Store → Prop} {X : Exn → Store → Prop} {a0 : D} (h : wp (runD tab k d_is_amount [a0] s) Q X) : wp ((tb tab k).call "is_amount" [a0] s) Q X := w_tbc rfl h
theorem run_plus {k : Nat} {s : Store} {Q : D → Store → Prop} {X : Exn → Store → Prop} {a0 a1 : D} (h : wf (exSs (tb tab k) d_plus.ir [some a0, some a1] s) (fun _ s1 => Q .non s1) Q (fun _ _ => False) (fun _ _ => False) fun x _ s1 => X x s1) : wp (runD tab (k + 1) d_plus [a0, a1] s) Q X := w_run rfl h
theorem call_plus {k : Nat} {s : Store} {Q : D → Store → Prop} {X : Exn → Store → Prop} {a0 a1 : D} (h : wp (runD tab k d_plus [a0, a1] s) Q X) : wp ((tb tab k).call "plus" [a0, a1] s) Q X := w_tbc rfl h
theorem run_minus {k : Nat} {s : Store} {Q : D → Store → Prop} {X : Exn → Store → Prop} {a0 a1 : D} (h : wf (exSs (tb tab k) d_minus.ir [some a0, some a1] s) (fun _ s1 => Q .non s1) Q (fun _ _ => False) (fun _ _ => False) fun x _ s1 => X x s1) : wp (runD tab (k + 1) d_minus [a0, a1] s) Q X := w_run rfl h
theorem call_minus {k : Nat} {s : Store} {Q : D → Store → Prop} {X : Exn → Store → Prop} {a0 a1 : D} (h : wp (runD tab k d_minus [a0, a1] s) Q X) : wp ((tb tab k).call "minus" [a0, a1] s) Q X := w_tbc rfl h
theorem run_times {k : Nat} {s : Store} {Q : D → Store → Prop} {X : Exn → Store → Prop} {a0 a1 : D} (h : wf (exSs (tb tab k) d_times.ir [some a0, some a1] s) (fun _ s1 => Q .non s1) Q (fun _ _ => False) (fun _ _ => False) fun x _ s1 => X x s1) : wp (runD tab (k + 1) d_times [a0, a1] s) Q X := w_run rfl h
theorem call_times {k : Nat} {s : Store} {Q : D → Store → Prop} {X : Exn → Store → Prop} {a0 a1 : D} (h : wp (runD tab k d_times [a0, a1] s) Q X) : wp ((tb tab k).call "times" [a0, a1] s) Q X := w_tbc rfl h
theorem run_over {k : Nat} {s : Store} {Q : D → Store → Prop} {X : Exn → Store → Prop} {a0 a1 : D} (h : wf (exSs (tb tab k) d_over.ir [some a0, some a1] s) (fun _ s1 => Q .non s1) Q (fun _ _ => False) (fun _ _ => False) fun x _ s1 => X x s1) : wp (runD tab (k + 1) d_over [a0, a1] s) Q X := w_run rfl h
theorem call_over {k : Nat} {s : Store} {Q : D → Store → Prop} {X : Exn → Store → Prop} {a0 a1 : D} (h : wp (runD tab k d_over [a0, a1] s) Q X) : wp ((tb tab k).call "over" [a0, a1] s) Q X := w_tbc rfl h
theorem run_compare {k : Nat} {s : Store} {Q : D → Store → Prop} {X : Exn → Store → Prop} {a0 a1 : D} (h : wf (exSs (tb tab k) d_compare.ir [some a0, some a1, none, none] s) (fun _ s1 => Q .non s1) Q (fun _ _ => False) (fun _ _ => False) fun x _ s1 => X x s1) : wp (runD tab (k + 1) d_compare [a0, a1] s) Q X := w_run rfl h
theorem call_compare {k : Nat} {s : Store} {Q : D → Store → Prop} {X : Exn → Store → Prop} {a0 a1 : D} (h : wp (runD tab k d_compare [a0, a1] s) Q X) : wp ((tb tab k).call "compare" [a0, a1] s) Q X := w_tbc rfl h
theorem run_L_whole {k : Nat} {s : Store} {Q : D → Store → Prop} {X : Exn → Store → Prop} {a0 : D} (h : wf (exSs (tb tab k) d_law_whole.ir [some a0] s) (fun _ s1 => Q .non s1) Q (fun _ _ => False) (fun _ _ => False) fun x _ s1 => X x s1) : wp (runD tab (k + 1) d_law_whole [a0] s) Q X := w_run rfl h
theorem call_L_whole {k : Nat} {s : Store} {Q : D → Store → Prop} {X : Exn → Store → Prop} {a0 : D} (h : wp (runD tab k d_law_whole [a0] s) Q X) : wp ((tb tab k).call "_law_whole" [a0] s) Q X := w_tbc rfl h
theorem run_L_cell {k : Nat} {s : Store} {Q : D → Store → Prop} {X : Exn → Store → Prop} {a0 a1 : D} (h : wf (exSs (tb tab k) d_law_cell.ir [some a0, some a1, none, none] s) (fun _ s1 => Q .non s1) Q (fun _ _ => False) (fun _ _ => False) fun x _ s1 => X x s1) : wp (runD tab (k + 1) d_law_cell [a0, a1] s) Q X := w_run rfl h
theorem call_L_cell {k : Nat} {s : Store} {Q : D → Store → Prop} {X : Exn → Store → Prop} {a0 a1 : D} (h : wp (runD tab k d_law_cell [a0, a1] s) Q X) : wp ((tb tab k).call "_law_cell" [a0, a1] s) Q X := w_tbc rfl h
theorem run_L_row {k : Nat} {s : Store} {Q : D → Store → Prop} {X : Exn → Store → Prop} {a0 a1 : D} (h : wf (exSs (tb tab k) d_law_row.ir [some a0, some a1, none, none, none, none, none] s) (fun _ s1 => Q .non s1) Q (fun _ _ => False) (fun _ _ => False) fun x _ s1 => X x s1) : wp (runD tab (k + 1) d_law_row [a0, a1] s) Q X := w_run rfl h
theorem call_L_row {k : Nat} {s : Store} {Q : D → Store → Prop} {X : Exn → Store → Prop} {a0 a1 : D} (h : wp (runD tab k d_law_row [a0, a1] s) Q X) : wp ((tb tab k).call "_law_row" [a0, a1] s) Q X := w_tbc rfl h
theorem run_L_number {k : Nat} {s : Store} {Q : D → Store → Prop} {X : Exn → Store → Prop} {a0 : D} (h : wf (exSs (tb tab k) d_law_number.ir [some a0, none, none, none] s) (fun _ s1 => Q .non s1) Q (fun _ _ => False) (fun _ _ => False) fun x _ s1 => X x s1) : wp (runD tab (k + 1) d_law_number [a0] s) Q X := w_run rfl h
theorem call_L_number {k : Nat} {s : Store} {Q : D → Store → Prop} {X : Exn → Store → Prop} {a0 : D} (h : wp (runD tab k d_law_number [a0] s) Q X) : wp ((tb tab k).call "_law_number" [a0] s) Q X := w_tbc rfl h
theorem run_L_gcd {k : Nat} {s : Store} {Q : D → Store → Prop} {X : Exn → Store → Prop} {a0 a1 : D} (h : wf (exSs (tb tab k) d_law_gcd.ir [some a0, some a1, none, none, none, none] s) (fun _ s1 => Q .non s1) Q (fun _ _ => False) (fun _ _ => False) fun x _ s1 => X x s1) : wp (runD tab (k + 1) d_law_gcd [a0, a1] s) Q X := w_run rfl h
theorem call_L_gcd {k : Nat} {s : Store} {Q : D → Store → Prop} {X : Exn → Store → Prop} {a0 a1 : D} (h : wp (runD tab k d_law_gcd [a0, a1] s) Q X) : wp ((tb tab k).call "_law_gcd" [a0, a1] s) Q X := w_tbc rfl h
theorem run_L_amount {k : Nat} {s : Store} {Q : D → Store → Prop} {X : Exn → Store → Prop} {a0 a1 : D} (h : wf (exSs (tb tab k) d_law_amount.ir [some a0, some a1, none] s) (fun _ s1 => Q .non s1) Q (fun _ _ => False) (fun _ _ => False) fun x _ s1 => X x s1) : wp (runD tab (k + 1) d_law_amount [a0, a1] s) Q X := w_run rfl h
theorem call_L_amount {k : Nat} {s : Store} {Q : D → Store → Prop} {X : Exn → Store → Prop} {a0 a1 : D} (h : wp (runD tab k d_law_amount [a0, a1] s) Q X) : wp ((tb tab k).call "_law_amount" [a0, a1] s) Q X := w_tbc rfl h
theorem run_L_is_amount {k : Nat} {s : Store} {Q : D → Store → Prop} {X : Exn → Store → Prop} {a0 : D} (h : wf (exSs (tb tab k) d_law_is_amount.ir [some a0] s) (fun _ s1 => Q .non s1) Q (fun _ _ => False) (fun _ _ => False) fun x _ s1 => X x s1) : wp (runD tab (k + 1) d_law_is_amount [a0] s) Q X := w_run rfl h
theorem call_L_is_amount {k : Nat} {s : Store} {Q : D → Store → Prop} {X : Exn → Store → Prop} {a0 : D} (h : wp (runD tab k d_law_is_amount [a0] s) Q X) : wp ((tb tab k).call "_law_is_amount" [a0] s) Q X := w_tbc rfl h
theorem run_L_told {k : Nat} {s : Store} {Q : D → Store → Prop} {X : Exn → Store → Prop} {a0 a1 a2 : D} (h : wf (exSs (tb tab k) d_law_told.ir [some a0, some a1, some a2] s) (fun _ s1 => Q .non s1) Q (fun _ _ => False) (fun _ _ => False) fun x _ s1 => X x s1) : wp (runD tab (k + 1) d_law_told [a0, a1, a2] s) Q X := w_run rfl h
theorem call_L_told {k : Nat} {s : Store} {Q : D → Store → Prop} {X : Exn → Store → Prop} {a0 a1 a2 : D} (h : wp (runD tab k d_law_told [a0, a1, a2] s) Q X) : wp ((tb tab k).call "_law_told" [a0, a1, a2] s) Q X := w_tbc rfl h
theorem run_L_refused {k : Nat} {s : Store} {Q : D → Store → Prop} {X : Exn → Store → Prop} {a0 a1 a2 : D} (h : wf (exSs (tb tab k) d_law_refused.ir [some a0, some a1, some a2, none] s) (fun _ s1 => Q .non s1) Q (fun _ _ => False) (fun _ _ => False) fun x _ s1 => X x s1) : wp (runD tab (k + 1) d_law_refused [a0, a1, a2] s) Q X := w_run rfl h
theorem call_L_refused {k : Nat} {s : Store} {Q : D → Store → Prop} {X : Exn → Store → Prop} {a0 a1 a2 : D} (h : wp (runD tab k d_law_refused [a0, a1, a2] s) Q X) : wp ((tb tab k).call "_law_refused" [a0, a1, a2] s) Q X := w_tbc rfl h
theorem run_L_refused_by_base {k : Nat} {s : Store} {Q : D → Store → Prop} {X : Exn → Store → Prop} {a0 : D} (h : wf (exSs (tb tab k) d_law_refused_by_base.ir [some a0, none] s) (fun _ s1 => Q .non s1) Q (fun _ _ => False) (fun _ _ => False) fun x _ s1 => X x s1) : wp (runD tab (k + 1) d_law_refused_by_base [a0] s) Q X := w_run rfl h
theorem call_L_refused_by_base {k : Nat} {s : Store} {Q : D → Store → Prop} {X : Exn → Store → Prop} {a0 : D} (h : wp (runD tab k d_law_refused_by_base [a0] s) Q X) : wp ((tb tab k).call "_law_refused_by_base" [a0] s) Q X := w_tbc rfl h
theorem run_L_made {k : Nat} {s : Store} {Q : D → Store → Prop} {X : Exn → Store → Prop} {a0 a1 : D} (h : wf (exSs (tb tab k) d_law_made.ir [some a0, some a1] s) (fun _ s1 => Q .non s1) Q (fun _ _ => False) (fun _ _ => False) fun x _ s1 => X x s1) : wp (runD tab (k + 1) d_law_made [a0, a1] s) Q X := w_run rfl h
theorem call_L_made {k : Nat} {s : Store} {Q : D → Store → Prop} {X : Exn → Store → Prop} {a0 a1 : D} (h : wp (runD tab k d_law_made [a0, a1] s) Q X) : wp ((tb tab k).call "_law_made" [a0, a1] s) Q X := w_tbc rfl h
theorem run_L_operations {k : Nat} {s : Store} {Q : D → Store → Prop} {X : Exn → Store → Prop} {a0 a1 : D} (h : wf (exSs (tb tab k) d_law_operations.ir [some a0, some a1, none, none, none, none] s) (fun _ s1 => Q .non s1) Q (fun _ _ => False) (fun _ _ => False) fun x _ s1 => X x s1) : wp (runD tab (k + 1) d_law_operations [a0, a1] s) Q X := w_run rfl h
theorem call_L_operations {k : Nat} {s : Store} {Q : D → Store → Prop} {X : Exn → Store → Prop} {a0 a1 : D} (h : wp (runD tab k d_law_operations [a0, a1] s) Q X) : wp ((tb tab k).call "_law_operations" [a0, a1] s) Q X := w_tbc rfl h
theorem run_L_second {k : Nat} {s : Store} {Q : D → Store → Prop} {X : Exn → Store → Prop} {a0 a1 a2 a3 : D} (h : wf (exSs (tb tab k) d_law_second.ir [some a0, some a1, some a2, some a3, none] s) (fun _ s1 => Q .non s1) Q (fun _ _ => False) (fun _ _ => False) fun x _ s1 => X x s1) : wp (runD tab (k + 1) d_law_second [a0, a1, a2, a3] s) Q X := w_run rfl h
theorem call_L_second {k : Nat} {s : Store} {Q : D → Store → Prop} {X : Exn → Store → Prop} {a0 a1 a2 a3 : D} (h : wp (runD tab k d_law_second [a0, a1, a2, a3] s) Q X) : wp ((tb tab k).call "_law_second" [a0, a1, a2, a3] s) Q X := w_tbc rfl h
theorem run_L_values {k : Nat} {s : Store} {Q : D → Store → Prop} {X : Exn → Store → Prop} {a0 a1 a2 a3 a4 : D} (h : wf (exSs (tb tab k) d_law_values.ir [some a0, some a1, some a2, some a3, some a4, none] s) (fun _ s1 => Q .non s1) Q (fun _ _ => False) (fun _ _ => False) fun x _ s1 => X x s1) : wp (runD tab (k + 1) d_law_values [a0, a1, a2, a3, a4] s) Q X := w_run rfl h
theorem call_L_values {k : Nat} {s : Store} {Q : D → Store → Prop} {X : Exn → Store → Prop} {a0 a1 a2 a3 a4 : D} (h : wp (runD tab k d_law_values [a0, a1, a2, a3, a4] s) Q X) : wp ((tb tab k).call "_law_values" [a0, a1, a2, a3, a4] s) Q X := w_tbc rfl h
theorem run_L_judged {k : Nat} {s : Store} {Q : D → Store → Prop} {X : Exn → Store → Prop} {a0 : D} (h : wf (exSs (tb tab k) d_law_judged.ir [some a0, none, none] s) (fun _ s1 => Q .non s1) Q (fun _ _ => False) (fun _ _ => False) fun x _ s1 => X x s1) : wp (runD tab (k + 1) d_law_judged [a0] s) Q X := w_run rfl h
theorem call_L_judged {k : Nat} {s : Store} {Q : D → Store → Prop} {X : Exn → Store → Prop} {a0 : D} (h : wp (runD tab k d_law_judged [a0] s) Q X) : wp ((tb tab k).call "_law_judged" [a0] s) Q X := w_tbc rfl h
theorem run_L_passed_again {k : Nat} {s : Store} {Q : D → Store → Prop} {X : Exn → Store → Prop} {a0 a1 a2 a3 : D} (h : wf (exSs (tb tab k) d_law_passed_again.ir [some a0, some a1, some a2, some a3, none, none, none, none] s) (fun _ s1 => Q .non s1) Q (fun _ _ => False) (fun _ _ => False) fun x _ s1 => X x s1) : wp (runD tab (k + 1) d_law_passed_again [a0, a1, a2, a3] s) Q X := w_run rfl h
theorem call_L_passed_again {k : Nat} {s : Store} {Q : D → Store → Prop} {X : Exn → Store → Prop} {a0 a1 a2 a3 : D} (h : wp (runD tab k d_law_passed_again [a0, a1, a2, a3] s) Q X) : wp ((tb tab k).call "_law_passed_again" [a0, a1, a2, a3] s) Q X := w_tbc rfl h
theorem run_law {k : Nat} {s : Store} {Q : D → Store → Prop} {X : Exn → Store → Prop} {a0 : D} (h : wf (exSs (tb tab k) d_law.ir [some a0, none, none, none, none, none, none, none, none, none, none] s) (fun _ s1 => Q .non s1) Q (fun _ _ => False) (fun _ _ => False) fun x _ s1 => X x s1) : wp (runD tab (k + 1) d_law [a0] s) Q X := w_run rfl h
theorem call_law {k : Nat} {s : Store} {Q : D → Store → Prop} {X : Exn → Store → Prop} {a0 : D} (h : wp (runD tab k d_law [a0] s) Q X) : wp ((tb tab k).call "law" [a0] s) Q X := w_tbc rfl h
end RK00
set_option maxRecDepth 100000
set_option maxHeartbeats 4000000
namespace RK00
open PySem L2 RI
/-! ### numbers -/
/-- at most n bits -/
def Bd (n : Nat) (x : Int) : Prop := x.natAbs < 2 ^ n
theorem Bd.mono {n m : Nat} {x : Int} (h : Bd n x) (l : n ≤ m) : Bd m x := Nat.lt_of_lt_of_le h (Nat.pow_le_pow_right (by omega) l)
theorem Bd.fits {n : Nat} {x : Int} (h : Bd n x) (l : n ≤ 8000) : fits x := h.mono l
theorem Bd.mul {n m : Nat} {x y : Int} (a : Bd n x) (b : Bd m y) : Bd (n + m) (x * y) := by
  unfold Bd at *
  rw [Int.natAbs_mul, Nat.pow_add]
  exact Nat.mul_lt_mul'' a b
theorem Bd.add {n : Nat} {x y : Int} (a : Bd n x) (b : Bd n y) : Bd (n + 1) (x + y) := by
  unfold Bd at *
  have h : (x + y).natAbs ≤ x.natAbs + y.natAbs := Int.natAbs_add_le x y
  rw [Nat.pow_succ]
  omega
theorem Bd.neg {n : Nat} {x : Int} (a : Bd n x) : Bd n (-x) := by
  unfold Bd at *
  rw [Int.natAbs_neg]
  exact a
theorem Bd.sub {n : Nat} {x y : Int} (a : Bd n x) (b : Bd n y) : Bd (n + 1) (x - y) := by
  rw [Int.sub_eq_add_neg]
  exact a.add b.neg
theorem Bd.le {n : Nat} {x y : Int} (a : Bd n x) (h : y.natAbs ≤ x.natAbs) : Bd n y := Nat.lt_of_le_of_lt h a
theorem Bd.lit {n : Nat} {x : Int} (h : decide (x.natAbs < 2 ^ n) = true) : Bd n x := by
  unfold Bd
  exact of_decide_eq_true h
/-- top and bottom over their greatest common divisor, the bottom above zero -/
def nrmD (t b : Int) : Int := if b < 0 then -((Nat.gcd t.natAbs b.natAbs : Nat) : Int) else ((Nat.gcd t.natAbs b.natAbs : Nat) : Int)
def nrmP (t b : Int) : Int := t.fdiv (nrmD t b)
def nrmQ (t b : Int) : Int := b.fdiv (nrmD t b)
structure Am (p q : Int) : Prop where
  pos : 1 ≤ q
  cop : Nat.gcd p.natAbs q.natAbs = 1
theorem nrmD_ne {t b : Int} (h : b ≠ 0) : nrmD t b ≠ 0 := by
  have g : 0 < Nat.gcd t.natAbs b.natAbs := Nat.gcd_pos_of_pos_right _ (Int.natAbs_pos.mpr h)
  unfold nrmD
  split <;> omega
theorem nrmD_abs (t b : Int) : (nrmD t b).natAbs = Nat.gcd t.natAbs b.natAbs := by
  unfold nrmD
  split
  · rw [Int.natAbs_neg, Int.natAbs_natCast]
  · rw [Int.natAbs_natCast]
theorem nrmD_dvd (t b : Int) : nrmD t b ∣ t ∧ nrmD t b ∣ b := by
  have h1 : ((Nat.gcd t.natAbs b.natAbs : Nat) : Int) ∣ t := Int.ofNat_dvd_left.mpr (Nat.gcd_dvd_left _ _)
  have h2 : ((Nat.gcd t.natAbs b.natAbs : Nat) : Int) ∣ b := Int.ofNat_dvd_left.mpr (Nat.gcd_dvd_right _ _)
  unfold nrmD
  split
  · exact ⟨Int.neg_dvd.mpr h1, Int.neg_dvd.mpr h2⟩
  · exact ⟨h1, h2⟩
theorem nrm_eq {t b : Int} (h : b ≠ 0) : t = nrmD t b * nrmP t b ∧ b = nrmD t b * nrmQ t b := by
  obtain ⟨h1, h2⟩ := nrmD_dvd t b
  have n0 := nrmD_ne (t := t) h
  obtain ⟨c, hc⟩ := h1
  obtain ⟨e, he⟩ := h2
  have c1 : nrmP t b = c := by
    unfold nrmP
    generalize nrmD t b = d at *
    subst hc
    exact Int.mul_fdiv_cancel_left c n0
  have c2 : nrmQ t b = e := by
    unfold nrmQ
    generalize nrmD t b = d at *
    subst he
    exact Int.mul_fdiv_cancel_left e n0
  rw [c1, c2]
  exact ⟨hc, he⟩
theorem nrm_am {t b : Int} (h : b ≠ 0) : Am (nrmP t b) (nrmQ t b) := by
  obtain ⟨e1, e2⟩ := nrm_eq (t := t) h
  have n0 := nrmD_ne (t := t) h
  constructor
  · -- the sign
    have s : 0 < nrmQ t b := by
      rcases Int.lt_or_gt_of_ne h with hb | hb
      · have d : nrmD t b < 0 := by
          unfold nrmD at n0 ⊢
          rw [if_pos hb] at n0 ⊢
          omega
        rcases Int.lt_trichotomy (nrmQ t b) 0 with q | q | q
        · have := Int.mul_pos_of_neg_of_neg d q
          omega
        · rw [q, Int.mul_zero] at e2
          omega
        · exact q
      · have d : 0 < nrmD t b := by
          unfold nrmD at n0 ⊢
          rw [if_neg (by omega)] at n0 ⊢
          omega
        rcases Int.lt_trichotomy (nrmQ t b) 0 with q | q | q
        · have := Int.mul_neg_of_pos_of_neg d q
          omega
        · rw [q, Int.mul_zero] at e2
          omega
        · exact q
    omega
  · have g : 0 < Nat.gcd t.natAbs b.natAbs := Nat.gcd_pos_of_pos_right _ (Int.natAbs_pos.mpr h)
    have a1 : t.natAbs = Nat.gcd t.natAbs b.natAbs * (nrmP t b).natAbs := by
      have := congrArg Int.natAbs e1
      rw [Int.natAbs_mul, nrmD_abs] at this
      exact this
    have a2 : b.natAbs = Nat.gcd t.natAbs b.natAbs * (nrmQ t b).natAbs := by
      have := congrArg Int.natAbs e2
      rw [Int.natAbs_mul, nrmD_abs] at this
      exact this
    have k : Nat.gcd t.natAbs b.natAbs = Nat.gcd t.natAbs b.natAbs * Nat.gcd (nrmP t b).natAbs (nrmQ t b).natAbs := by
      have h : Nat.gcd (Nat.gcd t.natAbs b.natAbs * (nrmP t b).natAbs) (Nat.gcd t.natAbs b.natAbs * (nrmQ t b).natAbs) = Nat.gcd t.natAbs b.natAbs := by rw [← a1, ← a2]
      rw [Nat.gcd_mul_left] at h
      exact h.symm
    exact (Nat.eq_of_mul_eq_mul_left g (by rw [Nat.mul_one]; exact k.symm))
theorem nrm_cross {t b : Int} (h : b ≠ 0) : nrmP t b * b = t * nrmQ t b := by
  obtain ⟨e1, e2⟩ := nrm_eq (t := t) h
  have c1 : nrmP t b * b = nrmP t b * (nrmD t b * nrmQ t b) := congrArg _ e2
  have c2 : t * nrmQ t b = (nrmD t b * nrmP t b) * nrmQ t b := congrArg (· * nrmQ t b) e1
  rw [c1, c2, ← Int.mul_assoc, Int.mul_comm (nrmP t b) (nrmD t b)]
theorem nrm_le {t b : Int} (h : b ≠ 0) : (nrmP t b).natAbs ≤ t.natAbs ∧ (nrmQ t b).natAbs ≤ b.natAbs := by
  obtain ⟨e1, e2⟩ := nrm_eq (t := t) h
  have d : 1 ≤ (nrmD t b).natAbs := Int.natAbs_pos.mpr (nrmD_ne h)
  have a1 := congrArg Int.natAbs e1
  have a2 := congrArg Int.natAbs e2
  rw [Int.natAbs_mul] at a1 a2
  constructor
  · rw [a1]
    exact Nat.le_mul_of_pos_left _ d
  · rw [a2]
    exact Nat.le_mul_of_pos_left _ d
/-- amounts that are the same number are the same -/
theorem nrmD_le {t b : Int} (h : b ≠ 0) : (nrmD t b).natAbs ≤ b.natAbs := by
  rw [nrmD_abs]
  exact Nat.le_of_dvd (Int.natAbs_pos.mpr h) (Nat.gcd_dvd_right _ _)
end RK00
set_option maxRecDepth 100000
set_option maxHeartbeats 4000000
set_option exponentiation.threshold 10000
namespace RK00
open PySem L2 RI
variable {k : Nat} {s : Store} {X : Exn → Store → Prop}
abbrev noX : Exn → Store → Prop := fun _ _ => False
/-! ### whole numbers -/
def wholeD : D → Bool
  | .int _ => true
  | _ => false
/-- a value whose kind is known -/
def Kn (s : Store) (d : D) : Prop := ∃ f : Ty → Bool, ∀ t, tyD s t d = some (f t)
theorem whole_ty {d : D} (h : Kn s d) : ∃ a b : Bool, tyD s .int d = some a ∧ tyD s .bool d = some b ∧ (a && !b) = wholeD d := by
  cases d with
  | non => exact ⟨false, false, rfl, rfl, rfl⟩
  | bl b => exact ⟨true, true, rfl, rfl, rfl⟩
  | int i => exact ⟨true, false, rfl, rfl, rfl⟩
  | str x => exact ⟨false, false, rfl, rfl, rfl⟩
  | tup l => exact ⟨false, false, rfl, rfl, rfl⟩
  | ref n =>
    obtain ⟨f, hf⟩ := h
    have q := hf .int
    have q2 := hf .bool
    refine ⟨f .int, f .bool, q, q2, ?_⟩
    have z : f .int = false := by
      have q : (match s[n]? with
        | some (.lst _) => some (decide (Ty.int = Ty.list))
        | some (.dct _) => some (decide (Ty.int = Ty.dict))
        | some .odc => some (decide (Ty.int = Ty.dict))
        | _ => none) = some (f .int) := q
      cases e : s[n]? with
      | none => rw [e] at q; cases q
      | some o =>
        rw [e] at q
        cases o <;> first
          | cases q
          | (have := Option.some.inj q; rw [← this]; rfl)
    rw [z]
    rfl
theorem whole_ok {d : D} (h : Kn s d) : wp (runD tab (k + 1) d_is_whole [d] s) (fun v s' => v = .bl (wholeD d) ∧ s' = s) X := by
  obtain ⟨a, b, h1, h2, e⟩ := whole_ty h
  refine run_is_whole ?_
  dsimp only [d_is_whole]
  repeat walk_at "ri"
  refine w_isiK h1 ?_
  repeat walk_at "ri"
  cases a with
  | true =>
    repeat walk_at "ri"
    refine w_isiK h2 ?_
    repeat walk_at "ri"
    rw [← e]
    exact ⟨rfl, rfl⟩
  | false =>
    repeat walk_at "ri"
    rw [← e]
    exact ⟨rfl, rfl⟩
theorem lwhole_ok {d : D} (h : Kn s d) : wp (runD tab (k + 1) d_law_whole [d] s) (fun v s' => v = .bl (wholeD d) ∧ s' = s) X := by
  obtain ⟨a, b, h1, h2, e⟩ := whole_ty h
  refine run_L_whole ?_
  dsimp only [d_law_whole]
  repeat walk_at "ri"
  refine w_isiK h1 ?_
  repeat walk_at "ri"
  cases a with
  | true =>
    repeat walk_at "ri"
    refine w_isiK h2 ?_
    repeat walk_at "ri"
    rw [← e]
    exact ⟨rfl, rfl⟩
  | false =>
    repeat walk_at "ri"
    rw [← e]
    exact ⟨rfl, rfl⟩
/-! ### amount -/
theorem amount_ok {t b : Int} (hb : b ≠ 0) (f : Bd 8000 b) : wp (runD tab (k + 1) d_amount [.int t, .int b] s) (fun v s' => v = .tup [.int (nrmP t b), .int (nrmQ t b)] ∧ s' = s) X := by
  refine run_amount ?_
  dsimp only [d_amount]
  repeat walk_at "ri"
  refine br_df hb ?_
  repeat walk_at "ri"
  refine br_d (fun hn => ?_) (fun hn => ?_)
  · repeat walk_at "ri"
    have e : (-((Nat.gcd t.natAbs b.natAbs : Nat) : Int)) = nrmD t b := by unfold nrmD; rw [if_pos hn]
    rw [e]
    refine w_fdiv (nrmD_ne hb) ((f.le (nrmD_le hb)).fits (Nat.le_refl _)) ?_
    repeat walk_at "ri"
    refine w_fdiv (nrmD_ne hb) ((f.le (nrmD_le hb)).fits (Nat.le_refl _)) ?_
    repeat walk_at "ri"
    exact ⟨rfl, rfl⟩
  · repeat walk_at "ri"
    have e : (((Nat.gcd t.natAbs b.natAbs : Nat) : Int)) = nrmD t b := by unfold nrmD; rw [if_neg hn]
    rw [e]
    refine w_fdiv (nrmD_ne hb) ((f.le (nrmD_le hb)).fits (Nat.le_refl _)) ?_
    repeat walk_at "ri"
    refine w_fdiv (nrmD_ne hb) ((f.le (nrmD_le hb)).fits (Nat.le_refl _)) ?_
    repeat walk_at "ri"
    exact ⟨rfl, rfl⟩
theorem amount_zero {t : Int} : wp (runD tab (k + 1) d_amount [.int t, .int 0] s) (fun _ _ => False) (fun x s' => x = ⟨"NoAmount", []⟩ ∧ s' = s) := by
  refine run_amount ?_
  dsimp only [d_amount]
  repeat walk_at "ri"
  refine br_dt rfl ?_
  repeat walk_at "ri"
  exact ⟨rfl, rfl⟩
end RK00
set_option maxRecDepth 100000
set_option maxHeartbeats 4000000
set_option exponentiation.threshold 10000
namespace RK00
open PySem L2 RI
variable {k : Nat} {s : Store} {X : Exn → Store → Prop}
/-! ### the greatest common divisor, by turns -/
theorem fmod_nat (a b : Nat) : Int.fmod (a : Int) (b : Int) = ((a % b : Nat) : Int) := by
  rw [Int.fmod_eq_emod_of_nonneg _ (Int.natCast_nonneg b)]
  exact (Int.natCast_emod a b).symm
def gcdJ (s0 : Store) (a b : Int) (g P : Nat) (j : Nat) (ρ : RI.Env) (s : Store) : Prop := s = s0 ∧ ∃ (x y : Nat) (z w : Option D), ρ = [some (.int a), some (.int b), some (.int x), some (.int y), z, w] ∧ Nat.gcd x y = g ∧ (j = 0 → x * y = P) ∧ (1 ≤ j → y < x ∧ x * y * 2 ^ (j - 1) ≤ P)
theorem gcd_step {x y P j : Nat} (hy : y ≠ 0) (h0 : j = 0 → x * y = P) (h1 : 1 ≤ j → y < x ∧ x * y * 2 ^ (j - 1) ≤ P) : x % y < y ∧ y * (x % y) * 2 ^ j ≤ P := by
  have l : x % y < y := Nat.mod_lt _ (Nat.pos_of_ne_zero hy)
  refine ⟨l, ?_⟩
  cases j with
  | zero =>
    rw [Nat.pow_zero, Nat.mul_one, ← h0 rfl, Nat.mul_comm y]
    exact Nat.mul_le_mul_right _ (Nat.mod_le _ _)
  | succ j =>
    obtain ⟨a, b⟩ := h1 (by omega)
    rw [Nat.add_sub_cancel] at b
    refine Nat.le_trans ?_ b
    have d : x % y + y ≤ x := by
      have e := Nat.mod_add_div x y
      have q : 1 ≤ x / y := Nat.div_pos (Nat.le_of_lt a) (Nat.pos_of_ne_zero hy)
      have m : y * 1 ≤ y * (x / y) := Nat.mul_le_mul_left _ q
      omega
    have t : 2 * (x % y) ≤ x := by omega
    calc y * (x % y) * 2 ^ (j + 1) = y * (2 * (x % y)) * 2 ^ j := by rw [Nat.pow_succ]; ac_rfl
      _ ≤ y * x * 2 ^ j := Nat.mul_le_mul_right _ (Nat.mul_le_mul_left _ t)
      _ = x * y * 2 ^ j := by rw [Nat.mul_comm y x]
theorem gcd_end {x y P j m : Nat} (h : y < x ∧ x * y * 2 ^ (j - 1) ≤ P) (p : P < 2 ^ m) (l : m ≤ j - 1) : y = 0 := by
  rcases Nat.eq_zero_or_pos y with e | e
  · exact e
  · exfalso
    have xy : 1 ≤ x * y := Nat.mul_pos (by omega) e
    have c : 2 ^ (j - 1) ≤ P := by
      calc 2 ^ (j - 1) = 1 * 2 ^ (j - 1) := (Nat.one_mul _).symm
        _ ≤ x * y * 2 ^ (j - 1) := Nat.mul_le_mul_right _ xy
        _ ≤ _ := h.2
    exact absurd (Nat.lt_of_lt_of_le p (Nat.le_trans (Nat.pow_le_pow_right (by omega) l) c)) (Nat.lt_irrefl _)
theorem Bd.prod {n m : Nat} {a b : Int} (ha : Bd n a) (hb : Bd m b) : a.natAbs * b.natAbs < 2 ^ (n + m) := by
  rw [Nat.pow_add]
  exact Nat.mul_lt_mul'' ha hb
theorem lgcd_ok {a b : Int} (ha : Bd 8000 a) (hb : Bd 8000 b) : wp (runD tab (k + 1) d_law_gcd [.int a, .int b] s) (fun v s' => v = .int ((Nat.gcd a.natAbs b.natAbs : Nat) : Int) ∧ s' = s) X := by
  refine run_L_gcd ?_
  dsimp only [d_law_gcd]
  repeat walk_at "ri"
  refine f_rng ?_
  repeat walk_at "ri"
  refine ⟨_, gcdJ s a b (Nat.gcd a.natAbs b.natAbs) (a.natAbs * b.natAbs), rfl, by decide, ⟨rfl, a.natAbs, b.natAbs, none, none, rfl, rfl, fun _ => rfl, fun h => absurd h (by decide)⟩, ?_, ?_⟩
  · rintro j ρ s1 hd ⟨rfl, x, y, z, w, rfl, hg, h0, h1⟩
    dsimp only [List.set]
    repeat walk_at "ri"
    refine br_d (fun hy => ?_) (fun hy => ?_)
    · repeat walk_at "ri"
      have ey : y = 0 := by omega
      subst ey
      rw [Nat.gcd_zero_right] at hg
      subst hg
      exact ⟨rfl, rfl⟩
    · repeat walk_at "ri"
      refine w_mod (by omega) ?_
      repeat walk_at "ri"
      have hy0 : y ≠ 0 := by omega
      obtain ⟨l, q⟩ := gcd_step hy0 h0 h1
      refine ⟨rfl, y, x % y, some (.int j), some (.int ((x % y : Nat) : Int)), ?_, ?_, fun h => absurd h (Nat.succ_ne_zero _), fun _ => ⟨l, q⟩⟩
      · rw [fmod_nat]
        rfl
      · rw [← hg, Nat.gcd_comm y, ← Nat.gcd_rec, Nat.gcd_comm]
  · rintro ρ s1 ⟨rfl, x, y, z, w, rfl, hg, h0, h1⟩
    repeat walk_at "ri"
    have ey : y = 0 := gcd_end (h1 (by decide)) (ha.prod hb) (by decide)
    subst ey
    rw [Nat.gcd_zero_right] at hg
    subst hg
    exact ⟨rfl, rfl⟩
end RK00
set_option maxRecDepth 100000
set_option maxHeartbeats 4000000
set_option exponentiation.threshold 10000
namespace RK00
open PySem L2 RI
variable {k : Nat} {s : Store} {X : Exn → Store → Prop}
theorem bd_b (b : Bool) : Bd 8000 (if b = true then 1 else 0) := by
  cases b with
  | true => exact Bd.mono (n := 2) (by unfold Bd; decide) (by decide)
  | false => exact Bd.mono (n := 2) (by unfold Bd; decide) (by decide)
theorem bd2 : Bd 8000 2 := Bd.mono (n := 2) (by unfold Bd; decide) (by decide)
theorem bd3 : Bd 8000 3 := Bd.mono (n := 2) (by unfold Bd; decide) (by decide)
theorem bd0 : Bd 1 0 := by unfold Bd; decide
theorem bd1 : Bd 1 1 := by unfold Bd; decide
theorem lamount_ok {t b : Int} (hb : b ≠ 0) (ft : Bd 8000 t) (f : Bd 8000 b) : wp (runD tab (k + 2) d_law_amount [.int t, .int b] s) (fun v s' => v = .tup [.int (nrmP t b), .int (nrmQ t b)] ∧ s' = s) X := by
  refine run_L_amount ?_
  dsimp only [d_law_amount]
  repeat walk_at "ri"
  refine call_L_gcd (w_get (lgcd_ok ft f) ?_)
  rintro _ _ ⟨rfl, rfl⟩
  repeat walk_at "ri"
  refine w_mul (Bd.fits bd2 (Nat.le_refl _)) (Bd.fits (bd_b _) (Nat.le_refl _)) ?_
  repeat walk_at "ri"
  have fd : Bd 8000 ((Nat.gcd t.natAbs b.natAbs : Nat) : Int) := f.le (by
    rw [Int.natAbs_natCast]
    exact Nat.le_of_dvd (Int.natAbs_pos.mpr hb) (Nat.gcd_dvd_right _ _))
  have e : ((Nat.gcd t.natAbs b.natAbs : Nat) : Int) * (1 - 2 * (if decide (b < 0) = true then 1 else 0)) = nrmD t b := by
    unfold nrmD
    by_cases h : b < 0
    · rw [if_pos (decide_eq_true h), if_pos h]
      omega
    · rw [if_neg (by simpa using h), if_neg h]
      omega
  refine w_mul (Bd.fits fd (Nat.le_refl _)) ?_ ?_
  · by_cases h : b < 0
    · rw [if_pos (decide_eq_true h)]
      exact Bd.fits (n := 2) (by unfold Bd; decide) (by decide)
    · rw [if_neg (by simpa using h)]
      exact Bd.fits (n := 2) (by unfold Bd; decide) (by decide)
  · rw [e]
    repeat walk_at "ri"
    refine w_fdiv (nrmD_ne hb) ((f.le (nrmD_le hb)).fits (Nat.le_refl _)) ?_
    repeat walk_at "ri"
    refine w_fdiv (nrmD_ne hb) ((f.le (nrmD_le hb)).fits (Nat.le_refl _)) ?_
    repeat walk_at "ri"
    exact ⟨rfl, rfl⟩
/-! ### what is an amount -/
def amD : D → Bool
  | .tup [.int p, .int q] => decide (1 ≤ q) && decide (Nat.gcd p.natAbs q.natAbs = 1)
  | _ => false
theorem amD_eq (p q : Int) : amD (.tup [.int p, .int q]) = (decide (1 ≤ q) && decide (Nat.gcd p.natAbs q.natAbs = 1)) := rfl
inductive Gd (s : Store) : D → Prop
  | oth {d : D} : Kn s d → (∀ l, d ≠ .tup l) → Gd s d
  | len {l : List D} : l.length ≠ 2 → Gd s (.tup l)
  | two {x y : D} : Kn s x → Kn s y → (∀ i, x = .int i → Bd 8000 i) → (∀ i, y = .int i → Bd 8000 i) → Gd s (.tup [x, y])
theorem tup_ty {d : D} (h : Kn s d) (nt : ∀ l, d ≠ .tup l) : tyD s .tuple d = some false := by
  cases d with
  | non => rfl
  | bl b => rfl
  | int i => rfl
  | str x => rfl
  | tup l => exact absurd rfl (nt l)
  | ref n =>
    obtain ⟨f, hf⟩ := h
    have q := hf .tuple
    rw [q]
    have q : (match s[n]? with
      | some (.lst _) => some (decide (Ty.tuple = Ty.list))
      | some (.dct _) => some (decide (Ty.tuple = Ty.dict))
      | some .odc => some (decide (Ty.tuple = Ty.dict))
      | _ => none) = some (f .tuple) := q
    cases e : s[n]? with
    | none => rw [e] at q; cases q
    | some o =>
      rw [e] at q
      cases o <;> first
        | cases q
        | (have := Option.some.inj q; rw [← this]; rfl)
theorem amD_oth {d : D} (n : ∀ l, d ≠ .tup l) : amD d = false := by
  cases d with
  | tup l => exact absurd rfl (n l)
  | _ => rfl
theorem amD_len {l : List D} (n : l.length ≠ 2) : amD (.tup l) = false := by
  unfold amD
  split
  · rename_i h
    cases h
    exact absurd rfl n
  · rfl
theorem whole_int {d : D} (h : wholeD d = true) : ∃ i, d = .int i := by
  cases d with
  | int i => exact ⟨i, rfl⟩
  | _ => cases h
theorem amD_two {x y : D} (h : (wholeD x && wholeD y) = false) : amD (.tup [x, y]) = false := by
  unfold amD
  split
  · rename_i h2
    cases h2
    cases h
  · rfl
theorem nat_one (n : Nat) : decide (((n : Nat) : Int) = 1) = decide (n = 1) := by
  by_cases h : n = 1
  · subst h; rfl
  · rw [decide_eq_false h, decide_eq_false (by omega)]
theorem isam_ok {d : D} (h : Gd s d) : wp (runD tab (k + 2) d_is_amount [d] s) (fun v s' => v = .bl (amD d) ∧ s' = s) X := by
  refine run_is_amount ?_
  dsimp only [d_is_amount]
  cases h with
  | oth hk hn =>
    repeat walk_at "ri"
    refine w_isiK (tup_ty hk hn) ?_
    repeat walk_at "ri"
    rw [amD_oth hn]
    exact ⟨rfl, rfl⟩
  | @len l hl =>
    repeat walk_at "ri"
    refine w_len rfl ?_
    repeat walk_at "ri"
    refine br_df (by omega) ?_
    repeat walk_at "ri"
    rw [amD_len hl]
    exact ⟨rfl, rfl⟩
  | @two x y hx hy bx bY =>
    repeat walk_at "ri"
    refine w_len rfl ?_
    repeat walk_at "ri"
    refine br_dt rfl ?_
    repeat walk_at "ri"
    refine call_is_whole (w_get (whole_ok hx) ?_)
    rintro _ _ ⟨rfl, rfl⟩
    repeat walk_at "ri"
    cases e : wholeD x with
    | false =>
      repeat walk_at "ri"
      rw [amD_two (by rw [e]; rfl)]
      exact ⟨rfl, rfl⟩
    | true =>
      repeat walk_at "ri"
      refine call_is_whole (w_get (whole_ok hy) ?_)
      rintro _ _ ⟨rfl, rfl⟩
      repeat walk_at "ri"
      cases e2 : wholeD y with
      | false =>
        repeat walk_at "ri"
        rw [amD_two (by rw [e, e2]; rfl)]
        exact ⟨rfl, rfl⟩
      | true =>
        obtain ⟨p, rfl⟩ := whole_int e
        obtain ⟨q, rfl⟩ := whole_int e2
        repeat walk_at "ri"
        refine br_d (fun h1 => ?_) (fun h1 => ?_)
        · repeat walk_at "ri"
          refine ⟨?_, rfl⟩
          rw [amD_eq, decide_eq_true h1, Bool.true_and, nat_one]
        · repeat walk_at "ri"
          refine ⟨?_, rfl⟩
          rw [amD_eq, decide_eq_false h1, Bool.false_and]
theorem lisam_ok {d : D} (h : Gd s d) : wp (runD tab (k + 2) d_law_is_amount [d] s) (fun v s' => v = .bl (amD d) ∧ s' = s) X := by
  refine run_L_is_amount ?_
  dsimp only [d_law_is_amount]
  cases h with
  | oth hk hn =>
    repeat walk_at "ri"
    refine w_isiK (tup_ty hk hn) ?_
    repeat walk_at "ri"
    rw [amD_oth hn]
    exact ⟨rfl, rfl⟩
  | @len l hl =>
    repeat walk_at "ri"
    refine w_len rfl ?_
    repeat walk_at "ri"
    refine br_df (by omega) ?_
    repeat walk_at "ri"
    rw [amD_len hl]
    exact ⟨rfl, rfl⟩
  | @two x y hx hy bx bY =>
    repeat walk_at "ri"
    refine w_len rfl ?_
    repeat walk_at "ri"
    refine br_dt rfl ?_
    repeat walk_at "ri"
    refine call_L_whole (w_get (lwhole_ok hx) ?_)
    rintro _ _ ⟨rfl, rfl⟩
    repeat walk_at "ri"
    cases e : wholeD x with
    | false =>
      repeat walk_at "ri"
      rw [amD_two (by rw [e]; rfl)]
      exact ⟨rfl, rfl⟩
    | true =>
      repeat walk_at "ri"
      refine call_L_whole (w_get (lwhole_ok hy) ?_)
      rintro _ _ ⟨rfl, rfl⟩
      repeat walk_at "ri"
      cases e2 : wholeD y with
      | false =>
        repeat walk_at "ri"
        rw [amD_two (by rw [e, e2]; rfl)]
        exact ⟨rfl, rfl⟩
      | true =>
        obtain ⟨p, rfl⟩ := whole_int e
        obtain ⟨q, rfl⟩ := whole_int e2
        repeat walk_at "ri"
        refine br_d (fun h1 => ?_) (fun h1 => ?_)
        · repeat walk_at "ri"
          refine ⟨?_, rfl⟩
          rw [amD_eq, decide_eq_false (by omega), Bool.false_and]
        · repeat walk_at "ri"
          refine call_L_gcd (w_get (lgcd_ok (bx p rfl) (bY q rfl)) ?_)
          rintro _ _ ⟨rfl, rfl⟩
          repeat walk_at "ri"
          refine ⟨?_, rfl⟩
          rw [amD_eq, decide_eq_true (show 1 ≤ q by omega), Bool.true_and, nat_one]
end RK00
set_option maxRecDepth 100000
set_option maxHeartbeats 4000000
set_option exponentiation.threshold 10000
namespace RK00
open PySem L2 RI
variable {k : Nat} {s : Store} {X : Exn → Store → Prop}
theorem kn_int (i : Int) : Kn s (.int i) := ⟨fun t => decide (t = .int), fun _ => rfl⟩
theorem gd_am {p q : Int} (bp : Bd 8000 p) (bq : Bd 8000 q) : Gd s (.tup [.int p, .int q]) := .two (kn_int p) (kn_int q) (fun i h => by cases h; exact bp) fun i h => by cases h; exact bq
theorem amD_am {p q : Int} (h : Am p q) : amD (.tup [.int p, .int q]) = true := by rw [amD_eq, decide_eq_true h.pos, decide_eq_true h.cop]; rfl
theorem told_ok {p q t b : Int} (am : Am p q) (bp : Bd 8000 p) (bq : Bd 8000 q) (bt : Bd 8000 t) (bb : Bd 8000 b) (e : p * b = t * q) : wp (runD tab (k + 3) d_law_told [.tup [.int p, .int q], .int t, .int b] s) (fun v s' => v = .bl true ∧ s' = s) X := by
  refine run_L_told ?_
  dsimp only [d_law_told]
  repeat walk_at "ri"
  refine call_L_is_amount (w_get (lisam_ok (gd_am bp bq)) ?_)
  rintro _ _ ⟨rfl, rfl⟩
  rw [amD_am am]
  repeat walk_at "ri"
  refine w_mul (bp.fits (Nat.le_refl _)) (bb.fits (Nat.le_refl _)) ?_
  repeat walk_at "ri"
  refine w_mul (bt.fits (Nat.le_refl _)) (bq.fits (Nat.le_refl _)) ?_
  repeat walk_at "ri"
  rw [decide_eq_true e]
  exact ⟨rfl, rfl⟩
/-- of what amount returned -/
theorem told_nrm {t b : Int} (hb : b ≠ 0) (ft : Bd 8000 t) (f : Bd 8000 b) : wp (runD tab (k + 3) d_law_told [.tup [.int (nrmP t b), .int (nrmQ t b)], .int t, .int b] s) (fun v s' => v = .bl true ∧ s' = s) X :=
  told_ok (nrm_am hb) (ft.le (nrm_le hb).1) (f.le (nrm_le hb).2) ft f (nrm_cross hb)
/-- a pair, as a tuple or a list -/
structure Pt (s : Store) (n : Nat) (d : D) (p q : Int) : Prop where
  seq : seqOf s d = some [.int p, .int q]
  pos : 1 ≤ q
  bp : Bd n p
  bq : Bd n q
section
variable {one two : D} {p q t u : Int} (h1 : Pt s 1500 one p q) (h2 : Pt s 1500 two t u)
include h1 h2
theorem plus_ok : wp (runD tab (k + 2) d_plus [one, two] s) (fun v s' => v = .tup [.int (nrmP (p * u + t * q) (q * u)), .int (nrmQ (p * u + t * q) (q * u))] ∧ s' = s) X := by
  have e1 := h1.seq
  have e2 := h2.seq
  refine run_plus ?_
  dsimp only [d_plus]
  repeat walk_at "ri"
  refine w_mul (h1.bp.fits (by decide)) (h2.bq.fits (by decide)) ?_
  repeat walk_at "ri"
  refine w_mul (h2.bp.fits (by decide)) (h1.bq.fits (by decide)) ?_
  repeat walk_at "ri"
  refine w_mul (h1.bq.fits (by decide)) (h2.bq.fits (by decide)) ?_
  repeat walk_at "ri"
  refine call_amount (w_get (amount_ok (Int.ne_of_gt (Int.mul_pos (by have := h1.pos; omega) (by have := h2.pos; omega))) ((h1.bq.mul h2.bq).mono (by decide))) ?_)
  rintro _ _ ⟨rfl, rfl⟩
  exact ⟨rfl, rfl⟩
theorem minus_ok : wp (runD tab (k + 2) d_minus [one, two] s) (fun v s' => v = .tup [.int (nrmP (p * u - t * q) (q * u)), .int (nrmQ (p * u - t * q) (q * u))] ∧ s' = s) X := by
  have e1 := h1.seq
  have e2 := h2.seq
  refine run_minus ?_
  dsimp only [d_minus]
  repeat walk_at "ri"
  refine w_mul (h1.bp.fits (by decide)) (h2.bq.fits (by decide)) ?_
  repeat walk_at "ri"
  refine w_mul (h2.bp.fits (by decide)) (h1.bq.fits (by decide)) ?_
  repeat walk_at "ri"
  refine w_mul (h1.bq.fits (by decide)) (h2.bq.fits (by decide)) ?_
  repeat walk_at "ri"
  refine call_amount (w_get (amount_ok (Int.ne_of_gt (Int.mul_pos (by have := h1.pos; omega) (by have := h2.pos; omega))) ((h1.bq.mul h2.bq).mono (by decide))) ?_)
  rintro _ _ ⟨rfl, rfl⟩
  exact ⟨rfl, rfl⟩
theorem times_ok : wp (runD tab (k + 2) d_times [one, two] s) (fun v s' => v = .tup [.int (nrmP (p * t) (q * u)), .int (nrmQ (p * t) (q * u))] ∧ s' = s) X := by
  have e1 := h1.seq
  have e2 := h2.seq
  refine run_times ?_
  dsimp only [d_times]
  repeat walk_at "ri"
  refine w_mul (h1.bp.fits (by decide)) (h2.bp.fits (by decide)) ?_
  repeat walk_at "ri"
  refine w_mul (h1.bq.fits (by decide)) (h2.bq.fits (by decide)) ?_
  repeat walk_at "ri"
  refine call_amount (w_get (amount_ok (Int.ne_of_gt (Int.mul_pos (by have := h1.pos; omega) (by have := h2.pos; omega))) ((h1.bq.mul h2.bq).mono (by decide))) ?_)
  rintro _ _ ⟨rfl, rfl⟩
  exact ⟨rfl, rfl⟩
theorem over_ok (n : t ≠ 0) : wp (runD tab (k + 2) d_over [one, two] s) (fun v s' => v = .tup [.int (nrmP (p * u) (q * t)), .int (nrmQ (p * u) (q * t))] ∧ s' = s) X := by
  have e1 := h1.seq
  have e2 := h2.seq
  refine run_over ?_
  dsimp only [d_over]
  repeat walk_at "ri"
  refine w_mul (h1.bp.fits (by decide)) (h2.bq.fits (by decide)) ?_
  repeat walk_at "ri"
  refine w_mul (h1.bq.fits (by decide)) (h2.bp.fits (by decide)) ?_
  repeat walk_at "ri"
  refine call_amount (w_get (amount_ok (Int.mul_ne_zero (by have := h1.pos; omega) n) ((h1.bq.mul h2.bp).mono (by decide))) ?_)
  rintro _ _ ⟨rfl, rfl⟩
  exact ⟨rfl, rfl⟩
theorem over_zero (n : t = 0) : wp (runD tab (k + 2) d_over [one, two] s) (fun _ _ => False) (fun x s' => x = ⟨"NoAmount", []⟩ ∧ s' = s) := by
  have e1 := h1.seq
  have e2 := h2.seq
  refine run_over ?_
  dsimp only [d_over]
  repeat walk_at "ri"
  refine w_mul (h1.bp.fits (by decide)) (h2.bq.fits (by decide)) ?_
  repeat walk_at "ri"
  refine w_mul (h1.bq.fits (by decide)) (h2.bp.fits (by decide)) ?_
  repeat walk_at "ri"
  rw [n, Int.mul_zero]
  exact call_amount (w_mono amount_zero (fun _ _ z => z.elim) fun _ _ z => z)
theorem compare_ok : wp (runD tab (k + 1) d_compare [one, two] s) (fun v s' => v = .int (if p * u < t * q then -1 else if t * q < p * u then 1 else 0) ∧ s' = s) X := by
  have e1 := h1.seq
  have e2 := h2.seq
  refine run_compare ?_
  dsimp only [d_compare]
  repeat walk_at "ri"
  refine w_mul (h1.bp.fits (by decide)) (h2.bq.fits (by decide)) ?_
  repeat walk_at "ri"
  refine w_mul (h2.bp.fits (by decide)) (h1.bq.fits (by decide)) ?_
  repeat walk_at "ri"
  refine br_d (fun a => ?_) (fun a => ?_)
  · repeat walk_at "ri"
    rw [if_pos a]
    exact ⟨rfl, rfl⟩
  · repeat walk_at "ri"
    refine br_d (fun b => ?_) (fun b => ?_)
    · repeat walk_at "ri"
      rw [if_neg a, if_pos b]
      exact ⟨rfl, rfl⟩
    · repeat walk_at "ri"
      rw [if_neg a, if_neg b]
      exact ⟨rfl, rfl⟩
end
theorem refused_q {one two : D} {p q u : Int} (h1 : Pt s 1500 one p q) (h2 : Pt s 1500 two 0 u) : wp (runD tab (k + 3) d_law_refused [one, two, .bl true] s) (fun v s' => v = .bl true ∧ s' = s) X := by
  refine run_L_refused ?_
  dsimp only [d_law_refused]
  repeat walk_at "ri"
  refine call_over (w_mono (over_zero h1 h2 rfl) (fun _ _ z => z.elim) ?_)
  rintro _ _ ⟨rfl, rfl⟩
  refine (show Br true _ _ from ?_)
  repeat walk_at "ri"
  exact ⟨rfl, rfl⟩
theorem refused_a {one two : D} {p t q : Int} {r : List D} (e1 : seqOf s one = some [.int p, .int t]) (e2 : seqOf s two = some [.int 0, .int q]) : wp (runD tab (k + 2) d_law_refused [one, two, .bl false] s) (fun v s' => v = .bl true ∧ s' = s) X := by
  refine run_L_refused ?_
  dsimp only [d_law_refused]
  repeat walk_at "ri"
  refine call_amount (w_mono amount_zero (fun _ _ z => z.elim) ?_)
  rintro _ _ ⟨rfl, rfl⟩
  refine (show Br true _ _ from ?_)
  repeat walk_at "ri"
  exact ⟨rfl, rfl⟩
theorem refused_b {t : Int} : wp (runD tab (k + 2) d_law_refused_by_base [.int t] s) (fun v s' => v = .bl true ∧ s' = s) X := by
  refine run_L_refused_by_base ?_
  dsimp only [d_law_refused_by_base]
  repeat walk_at "ri"
  refine w_tbk rfl (w_mono (amount_zero (t := t)) (fun _ _ z => z.elim) ?_)
  rintro _ _ ⟨rfl, rfl⟩
  refine (show Br true _ _ from ?_)
  repeat walk_at "ri"
  exact ⟨rfl, rfl⟩
end RK00
set_option maxRecDepth 100000
set_option maxHeartbeats 4000000
set_option exponentiation.threshold 10000
namespace RK00
open PySem L2 RI
variable {k : Nat} {s : Store} {X : Exn → Store → Prop}
theorem made_ok {t b : Int} (ft : Bd 4000 t) (fb : Bd 4000 b) : wp (runD tab (k + 4) d_law_made [.int t, .int b] s) (fun v s' => v = .bl true ∧ s' = s) X := by
  have ft' : Bd 8000 t := ft.mono (by decide)
  have fb' : Bd 8000 b := fb.mono (by decide)
  refine run_L_made ?_
  dsimp only [d_law_made]
  repeat walk_at "ri"
  refine call_amount_1 (w_get (amount_ok (t := t) (b := 1) (by decide) (Bd.mono bd1 (by decide))) ?_)
  rintro _ _ ⟨rfl, rfl⟩
  repeat walk_at "ri"
  refine call_L_told (w_get (told_nrm (by decide) ft' (Bd.mono bd1 (by decide))) ?_)
  rintro _ _ ⟨rfl, rfl⟩
  repeat walk_at "ri"
  refine call_L_refused_by_base (w_get refused_b ?_)
  rintro _ _ ⟨rfl, rfl⟩
  repeat walk_at "ri"
  refine br_d (fun h => ?_) (fun h => ?_)
  · subst h
    repeat walk_at "ri"
    refine call_L_refused (w_get (refused_a (r := []) rfl rfl) ?_)
    rintro _ _ ⟨rfl, rfl⟩
    exact ⟨rfl, rfl⟩
  · repeat walk_at "ri"
    refine call_amount (w_get (amount_ok h fb') ?_)
    rintro _ _ ⟨rfl, rfl⟩
    repeat walk_at "ri"
    refine call_L_told (w_get (told_nrm h ft' fb') ?_)
    rintro _ _ ⟨rfl, rfl⟩
    repeat walk_at "ri"
    refine w_tbk rfl (w_get (amount_ok (t := t) h fb') ?_)
    rintro _ _ ⟨rfl, rfl⟩
    repeat walk_at "ri"
    refine call_L_told (w_get (told_nrm h ft' fb') ?_)
    rintro _ _ ⟨rfl, rfl⟩
    exact ⟨rfl, rfl⟩
theorem oper_ok {one two : D} {p q t u : Int} (h1 : Pt s 1500 one p q) (h2 : Pt s 1500 two t u) : wp (runD tab (k + 4) d_law_operations [one, two] s) (fun v s' => v = .bl true ∧ s' = s) X := by
  have e1 := h1.seq
  have e2 := h2.seq
  have qu : q * u ≠ 0 := Int.ne_of_gt (Int.mul_pos (by have := h1.pos; omega) (by have := h2.pos; omega))
  have b1 : Bd 3000 (p * u) := h1.bp.mul h2.bq
  have b2 : Bd 3000 (t * q) := h2.bp.mul h1.bq
  have b3 : Bd 8000 (q * u) := (h1.bq.mul h2.bq).mono (by decide)
  have cmp : wf (exSs (tb tab (k + 3)) (Ss.of [.asg (.name 5) (.call "compare" (Es.of [.var 0, .var 1])), .ret (.and (.call "_law_whole" (Es.of [.var 5])) (.cmp .Eq (.var 5) (.bin .Sub (.bi .int (Es.of [.cmp .Gt (.var 2) (.var 3)])) (.bi .int (Es.of [.cmp .Lt (.var 2) (.var 3)])))))]) [some one, some two, some (.int (p * u)), some (.int (t * q)), some (.int (q * u)), none] s)
      (fun ρ s1 => D.non = .bl true ∧ s1 = s) (fun v s' => v = .bl true ∧ s' = s) (fun _ _ => False) (fun _ _ => False) (fun x _ s1 => X x s1) := by
    repeat walk_at "ri"
    refine call_compare (w_get (compare_ok h1 h2) ?_)
    rintro _ _ ⟨rfl, rfl⟩
    repeat walk_at "ri"
    refine call_L_whole (w_get (lwhole_ok (kn_int _)) ?_)
    rintro _ _ ⟨rfl, rfl⟩
    refine w_trB ?_
    refine (show Br true _ _ from ?_)
    repeat walk_at "ri"
    refine ⟨congrArg D.bl (decide_eq_true ?_), rfl⟩
    by_cases a : p * u < t * q
    · have b : ¬ (t * q < p * u) := by omega
      rw [if_pos a, decide_eq_true a, decide_eq_false b, if_neg Bool.false_ne_true, if_pos rfl]
      rfl
    · rw [if_neg a, decide_eq_false a, if_neg Bool.false_ne_true]
      by_cases b : t * q < p * u
      · rw [if_pos b, decide_eq_true b, if_pos rfl]
        rfl
      · rw [if_neg b, decide_eq_false b, if_neg Bool.false_ne_true]
        rfl
  refine run_L_operations ?_
  dsimp only [d_law_operations]
  repeat walk_at "ri"
  refine w_mul (h1.bp.fits (by decide)) (h2.bq.fits (by decide)) ?_
  repeat walk_at "ri"
  refine w_mul (h2.bp.fits (by decide)) (h1.bq.fits (by decide)) ?_
  repeat walk_at "ri"
  refine w_mul (h1.bq.fits (by decide)) (h2.bq.fits (by decide)) ?_
  repeat walk_at "ri"
  refine call_plus (w_get (plus_ok h1 h2) ?_)
  rintro _ _ ⟨rfl, rfl⟩
  repeat walk_at "ri"
  refine call_L_told (w_get (told_nrm qu ((b1.add b2).mono (by decide)) b3) ?_)
  rintro _ _ ⟨rfl, rfl⟩
  repeat walk_at "ri"
  refine call_minus (w_get (minus_ok h1 h2) ?_)
  rintro _ _ ⟨rfl, rfl⟩
  repeat walk_at "ri"
  refine call_L_told (w_get (told_nrm qu ((b1.sub b2).mono (by decide)) b3) ?_)
  rintro _ _ ⟨rfl, rfl⟩
  repeat walk_at "ri"
  refine call_times (w_get (times_ok h1 h2) ?_)
  rintro _ _ ⟨rfl, rfl⟩
  repeat walk_at "ri"
  refine w_mul (h1.bp.fits (by decide)) (h2.bp.fits (by decide)) ?_
  repeat walk_at "ri"
  refine call_L_told (w_get (told_nrm qu ((h1.bp.mul h2.bp).mono (by decide)) b3) ?_)
  rintro _ _ ⟨rfl, rfl⟩
  repeat walk_at "ri"
  refine br_d (fun h => ?_) (fun h => ?_)
  · have t0 : t = 0 := by
      rcases Int.mul_eq_zero.mp h with z | z
      · exact z
      · have := h1.pos
        omega
    subst t0
    repeat walk_at "ri"
    refine call_L_refused (w_get (refused_q h1 h2) ?_)
    rintro _ _ ⟨rfl, rfl⟩
    exact w_trB (w_trB (br_n (br_t (f_nil (f_nil cmp)))))
  · have t0 : t ≠ 0 := fun z => h (by rw [z, Int.zero_mul])
    repeat walk_at "ri"
    refine call_over (w_get (over_ok h1 h2 t0) ?_)
    rintro _ _ ⟨rfl, rfl⟩
    repeat walk_at "ri"
    have e3 : t * q = q * t := Int.mul_comm t q
    rw [e3]
    refine call_L_told (w_get (told_nrm (by rw [← e3]; exact h) (b1.mono (by decide)) (by rw [← e3]; exact b2.mono (by decide))) ?_)
    rintro _ _ ⟨rfl, rfl⟩
    rw [← e3]
    exact w_trB (w_trB (br_n (br_t (f_nil (f_nil cmp)))))
theorem judged_ok {n : Nat} {l : List D} (h : lstOf s (.ref n) = some l) (g : ∀ d ∈ l, Gd s d) : wp (runD tab (k + 3) d_law_judged [.ref n] s) (fun v s' => v = .bl true ∧ s' = s) X := by
  refine run_L_judged ?_
  dsimp only [d_law_judged]
  repeat walk_at "ri"
  refine f_seq ?_
  repeat walk_at "ri"
  refine ⟨l, fun _ ρ s' => s' = s ∧ ∃ x y : Option D, ρ = [some (.ref n), x, y], h, ⟨rfl, none, none, rfl⟩, ?_, ?_, ?_⟩
  · rintro j ρ s' ⟨rfl, _⟩
    exact h
  · rintro j d ρ s' hd ⟨rfl, x, y, rfl⟩
    have hg := g d (List.mem_of_getElem? hd)
    dsimp only [List.set]
    repeat walk_at "ri"
    refine call_is_amount (w_get (isam_ok hg) ?_)
    rintro _ _ ⟨rfl, rfl⟩
    repeat walk_at "ri"
    refine call_L_is_amount (w_get (lisam_ok hg) ?_)
    rintro _ _ ⟨rfl, rfl⟩
    repeat walk_at "ri"
    rw [beq_self_eq_true]
    repeat walk_at "ri"
    exact ⟨rfl, _, _, rfl⟩
  · rintro ρ s' ⟨rfl, x, y, rfl⟩
    repeat walk_at "ri"
    exact ⟨rfl, rfl⟩
end RK00
set_option maxRecDepth 100000
set_option maxHeartbeats 4000000
set_option exponentiation.threshold 10000
namespace RK00
open PySem L2 RI
variable {k : Nat} {s : Store} {X : Exn → Store → Prop}
/-- from 0 to below m -/
def In (m : Int) (x : Int) : Prop := 0 ≤ x ∧ x < m
theorem In.bd {m x : Int} {n : Nat} (h : In m x) (l : decide (m.natAbs ≤ 2 ^ n) = true) : Bd n x := by
  have l := of_decide_eq_true l
  unfold In at h
  unfold Bd
  omega
theorem In.mod {a m : Int} (h : 0 < m) : In m (a.fmod m) := fmod_bd h
/-- a script of whole numbers -/
def Scr (s : Store) (d : D) (ns : List Int) : Prop := lstOf s d = some (ns.map D.int)
theorem cell_ok {n : Nat} {ns : List Int} {j : Int} (h : lstOf s (.ref n) = some (ns.map D.int)) (hj : In 10 j) : wp (runD tab (k + 1) d_law_cell [.ref n, .int j] s) (fun v s' => (∃ i, v = .int i) ∧ s' = s) X := by
  refine run_L_cell ?_
  dsimp only [d_law_cell]
  repeat walk_at "ri"
  refine w_len h ?_
  repeat walk_at "ri"
  refine br_d (fun a => ?_) (fun a => ?_)
  · repeat walk_at "ri"
    obtain ⟨d, hd, e⟩ := atI_lt hj.1 a
    obtain ⟨i, _, rfl⟩ := List.mem_map.mp hd
    refine w_ixS h e ?_
    exact ⟨⟨i, rfl⟩, rfl⟩
  · repeat walk_at "ri"
    refine f_seq ?_
    repeat walk_at "ri"
    refine ⟨ns.map D.int, fun _ ρ s' => s' = s ∧ ∃ (z : Int) (x : Option D), In 1000003 z ∧ ρ = [some (.ref n), some (.int j), some (.int z), x], h, ⟨rfl, 17, none, by unfold In; omega, rfl⟩, ?_, ?_, ?_⟩
    · rintro i ρ s' ⟨rfl, _⟩
      exact h
    · rintro i d ρ s' hd ⟨rfl, z, x, hz, rfl⟩
      obtain ⟨c, _, rfl⟩ := List.mem_map.mp (List.mem_of_getElem? hd)
      dsimp only [List.set]
      repeat walk_at "ri"
      refine w_mul ((hz.bd (n := 20) (by decide)).fits (by decide)) (Bd.fits (n := 5) (by unfold Bd; decide) (by decide)) ?_
      repeat walk_at "ri"
      refine w_mod (by decide) ?_
      repeat walk_at "ri"
      refine w_mod (by decide) ?_
      repeat walk_at "ri"
      exact ⟨rfl, _, _, In.mod (by decide), rfl⟩
    · rintro ρ s' ⟨rfl, z, x, hz, rfl⟩
      repeat walk_at "ri"
      have b1 : Bd 21 (z + 7) := (hz.bd (n := 20) (by decide)).add (Bd.mono (n := 3) (by unfold Bd; decide) (by decide))
      have b2 : Bd 5 (j + 3) := (hj.bd (n := 4) (by decide)).add (Bd.mono (n := 2) (by unfold Bd; decide) (by decide))
      refine w_mul (b1.fits (by decide)) (b2.fits (by decide)) ?_
      repeat walk_at "ri"
      refine w_mul ((b1.mul b2).fits (by decide)) (Bd.fits (n := 17) (by unfold Bd; decide) (by decide)) ?_
      repeat walk_at "ri"
      refine w_mod (by decide) ?_
      exact ⟨⟨_, rfl⟩, rfl⟩
def RowI (s0 : Store) (c m : Int) (j : Nat) (ρ : RI.Env) (s : Store) : Prop := ∃ (l : List Int) (a z : Int) (x y : Option D), s = s0 ++ [.lst (l.map D.int)] ∧ l.length = j ∧ (∀ i ∈ l, In 60 i) ∧ In 2147483647 z ∧ ρ = [some (.int c), some (.int m), some (.ref s0.length), some (.int a), some (.int z), x, y]
theorem set_new (s : Store) (o p : O) : (s ++ [o]).set s.length p = s ++ [p] := by
  rw [List.set_append_right _ _ (Nat.le_refl _), Nat.sub_self]
  rfl
theorem row_ok {c : Int} {m : Nat} (hm : m ≤ 100) : wp (runD tab (k + 1) d_law_row [.int c, .int m] s) (fun v s' => ∃ l : List Int, v = .ref s.length ∧ s' = s ++ [.lst (l.map D.int)] ∧ l.length = m ∧ ∀ i ∈ l, In 60 i) X := by
  refine run_L_row ?_
  dsimp only [d_law_row]
  repeat walk_at "ri"
  refine w_pow (by decide) ?_
  repeat walk_at "ri"
  refine w_mod (by decide) ?_
  repeat walk_at "ri"
  refine f_rng ?_
  repeat walk_at "ri"
  refine ⟨_, RowI s c m, rfl, ⟨by omega, by omega⟩, ⟨[], _, _, none, none, rfl, rfl, fun i h => absurd h (List.not_mem_nil), ?_, rfl⟩, ?_, ?_⟩
  · have := @In.mod c 2147483629 (by decide)
    unfold In at this ⊢
    omega
  · rintro j ρ s1 hj ⟨l, a, z, x, y, rfl, hl, hi, hz, rfl⟩
    dsimp only [List.set]
    repeat walk_at "ri"
    have bz : Bd 31 z := hz.bd (by decide)
    have bj : Bd 7 (j : Int) := by
      unfold Bd
      rw [Int.natAbs_natCast]
      omega
    refine w_mul (bz.fits (by decide)) (Bd.fits (n := 20) (by unfold Bd; decide) (by decide)) ?_
    repeat walk_at "ri"
    refine w_mul (Bd.fits (n := 20) (by unfold Bd; decide) (by decide)) (bj.fits (by decide)) ?_
    repeat walk_at "ri"
    refine w_mod (by decide) ?_
    repeat walk_at "ri"
    generalize hz2 : Int.fmod _ 2147483647 = z2
    have iz2 : In 2147483647 z2 := by rw [← hz2]; exact In.mod (by decide)
    have bz2 : Bd 31 z2 := iz2.bd (by decide)
    refine w_fdiv (by decide) (Bd.fits (n := 17) (by unfold Bd; decide) (by decide)) ?_
    repeat walk_at "ri"
    have bd : Bd 32 (z2.fdiv 65537 + 3) := by
      have h0 : 0 ≤ z2.fdiv 65537 := Int.fdiv_nonneg iz2.1 (by decide)
      have h1 : z2.fdiv 65537 ≤ z2 := by
        rw [Int.fdiv_eq_ediv_of_nonneg _ (by decide)]
        exact Int.ediv_le_self _ iz2.1
      unfold In at iz2
      unfold Bd
      omega
    refine w_mul (bz2.fits (by decide)) (bd.fits (by decide)) ?_
    repeat walk_at "ri"
    refine w_mod (by decide) ?_
    repeat walk_at "ri"
    refine w_fdiv (by decide) (Bd.fits (n := 5) (by unfold Bd; decide) (by decide)) ?_
    repeat walk_at "ri"
    refine w_pow (by decide) ?_
    repeat walk_at "ri"
    have tail : ∀ (a dg : Int) (Bk : RI.Env → Store → Prop), wf (exSs (tb tab k) (Ss.of [.expr (.meth (.var 2) .append (Es.of [.bin .Mod (.bi .int (Es.of [.var 6])) (.c (.int 60))]))]) [some (.int c), some (.int m), some (.ref s.length), some (.int a), some (.int z2), some (.int j), some (.int dg)] (s ++ [.lst (l.map D.int)]))
        (RowI s c m (j + 1)) (fun v s' => ∃ l : List Int, v = .ref s.length ∧ s' = s ++ [.lst (l.map D.int)] ∧ l.length = m ∧ ∀ i ∈ l, In 60 i) Bk (RowI s c m (j + 1)) (fun x _ s1 => X x s1) := by
      intro a dg Bk
      repeat walk_at "ri"
      refine ⟨?_, ?_⟩
      · show (match (s ++ [O.lst (l.map D.int)])[s.length]? with
          | some (.lst _) => true
          | _ => false) = true
        rw [get_new]
      · repeat walk_at "ri"
        refine w_mod (by decide) ?_
        refine w_appK (get_new s _) (by rw [List.length_map]; unfold most; omega) ?_
        refine f_nil ?_
        refine ⟨l ++ [dg.fmod 60], a, z2, _, _, ?_, by simp [hl], ?_, iz2, rfl⟩
        · rw [set_new, List.map_append]
          rfl
        · intro i h
          rcases List.mem_append.mp h with h | h
          · exact hi i h
          · have e : i = dg.fmod 60 := by simpa using h
            rw [e]
            exact In.mod (by decide)
    refine br_d (fun a => ?_) (fun a => ?_)
    · repeat walk_at "ri"
      refine w_fdiv (by decide) (Bd.fits (n := 6) (by unfold Bd; decide) (by decide)) ?_
      refine f_nil ?_
      exact tail _ _ _
    · refine f_nil ?_
      exact tail _ _ _
  · rintro ρ s1 ⟨l, a, z, x, y, rfl, hl, hi, hz, rfl⟩
    repeat walk_at "ri"
    exact ⟨l, rfl, rfl, by rw [hl]; exact Int.toNat_natCast m, hi⟩
end RK00
set_option maxRecDepth 100000
set_option maxHeartbeats 4000000
set_option exponentiation.threshold 10000
namespace RK00
open PySem L2 RI
variable {k : Nat} {s : Store} {X : Exn → Store → Prop}
theorem p18 : (10 : Int) ^ (18 : Int).toNat = 1000000000000000000 := by decide
theorem p30 : (10 : Int) ^ (30 : Int).toNat = 1000000000000000000000000000000 := by decide
theorem p28 : (10 : Int) ^ (28 : Int).toNat = 10000000000000000000000000000 := by decide
/-- a row of whole numbers in the store -/
theorem pick {s : Store} {d : D} {l : List D} {i : Int} {P : D → Prop} (h : seqOf s d = some l) (a : ∀ x ∈ l, P x) (h0 : 0 ≤ i) (h1 : i < l.length) {Q : D → Store → Prop} (q : ∀ x, P x → Q x s) : wp (ixK d (.int i) s) Q X := by
  obtain ⟨x, hx, e⟩ := atI_lt h0 h1
  exact w_ixS h e (q x (a x hx))
def IntB (n : Nat) (d : D) : Prop := ∃ i, d = .int i ∧ Bd n i
def Int60 (d : D) : Prop := ∃ i, d = .int i ∧ In 60 i
theorem fourteen {l : List Int} (h : l.length = 14) (g : ∀ i ∈ l, In 60 i) : ∃ a0 a1 a2 a3 a4 a5 a6 a7 a8 a9 a10 a11 a12 a13, l = [a0, a1, a2, a3, a4, a5, a6, a7, a8, a9, a10, a11, a12, a13] := by
  match l, h with
  | [a0, a1, a2, a3, a4, a5, a6, a7, a8, a9, a10, a11, a12, a13], _ => exact ⟨a0, a1, a2, a3, a4, a5, a6, a7, a8, a9, a10, a11, a12, a13, rfl⟩
theorem pow_step {i d : Int} {j : Nat} (h0 : 0 ≤ i) (h1 : i < 60 ^ (j + 1)) (hd : In 60 d) : 0 ≤ i * 60 + d ∧ i * 60 + d < 60 ^ (j + 2) := by
  unfold In at hd
  have e : (60 : Int) ^ (j + 2) = 60 ^ (j + 1) * 60 := Int.pow_succ 60 (j + 1)
  rw [e]
  generalize (60 : Int) ^ (j + 1) = m at *
  omega
theorem pow_bd {i : Int} {j : Nat} (h0 : 0 ≤ i) (h1 : i < 60 ^ (j + 1)) (hj : j ≤ 15) : Bd 150 i := by
  have a : (60 : Int) ^ (j + 1) ≤ 60 ^ 16 := by
    have b : (60 : Nat) ^ (j + 1) ≤ 60 ^ 16 := Nat.pow_le_pow_right (by decide) (by omega)
    exact_mod_cast b
  have c : i < 60 ^ 16 := Int.lt_of_lt_of_le h1 a
  unfold Bd
  have d : (60 : Int) ^ 16 = 28211099074560000000000000000 := by decide
  rw [d] at c
  omega
theorem number_ok {c : Int} : wp (runD tab (k + 2) d_law_number [.int c] s) (fun v s' => (∃ i, v = .int i ∧ Bd 200 i) ∧ Ext s s') X := by
  refine run_L_number ?_
  dsimp only [d_law_number]
  repeat walk_at "ri"
  refine w_pow (by decide) ?_
  rw [p18]
  repeat walk_at "ri"
  refine br_d (fun a => ?_) (fun a => ?_)
  · repeat walk_at "ri"
    refine w_pow (by decide) ?_
    rw [p30]
    refine w_mul (Bd.fits (n := 2) (by unfold Bd; decide) (by decide)) (Bd.fits (n := 100) (by unfold Bd; decide) (by decide)) ?_
    repeat walk_at "ri"
    refine w_mod (by decide) ?_
    repeat walk_at "ri"
    refine w_pow (by decide) ?_
    rw [p30]
    repeat walk_at "ri"
    refine ⟨⟨_, rfl, ?_⟩, Ext.refl s⟩
    have := @In.mod c (2 * 1000000000000000000000000000000 - 1) (by decide)
    unfold In at this
    unfold Bd
    omega
  · repeat walk_at "ri"
    refine call_L_row (w_get (row_ok (m := 14) (by decide)) ?_)
    rintro _ _ ⟨l, rfl, rfl, hl, hi⟩
    obtain ⟨a0, a1, a2, a3, a4, a5, a6, a7, a8, a9, a10, a11, a12, a13, rfl⟩ := fourteen hl hi
    have e0 : seqOf (s ++ [.lst ([a0, a1, a2, a3, a4, a5, a6, a7, a8, a9, a10, a11, a12, a13].map D.int)]) (.ref s.length) = some [.int a0, .int a1, .int a2, .int a3, .int a4, .int a5, .int a6, .int a7, .int a8, .int a9, .int a10, .int a11, .int a12, .int a13] := lst_new s _
    have x0 : Ext s (s ++ [.lst ([a0, a1, a2, a3, a4, a5, a6, a7, a8, a9, a10, a11, a12, a13].map D.int)]) := Ext.app _ _
    generalize s ++ [.lst ([a0, a1, a2, a3, a4, a5, a6, a7, a8, a9, a10, a11, a12, a13].map D.int)] = s1 at *
    have i1 : In 60 a1 := hi a1 (by simp)
    have i4 : In 60 a4 := hi a4 (by simp)
    repeat walk_at "ri"
    have tail : ∀ (i : Int) (s2 : Store), Bd 150 i → Ext s1 s2 → wp (binD .Mod (.int a13) (.int 2) s2) (fun y s3 => wp (binD .Mult (.int 2) y s3) (fun y s4 => wp (binD .Sub (.int 1) y s4) (fun y s5 => wp (binD .Mult (.int i) y s5) (fun v s' => (∃ i, v = .int i ∧ Bd 200 i) ∧ Ext s s') fun x s1 => X x s1) fun x s1 => X x s1) fun x s1 => X x s1) fun x s1 => X x s1 := by
      intro i s2 bi x2
      refine w_mod (by decide) ?_
      have b2 : In 2 (a13.fmod 2) := In.mod (by decide)
      refine w_mul (Bd.fits (n := 2) (by unfold Bd; decide) (by decide)) ((b2.bd (n := 2) (by decide)).fits (by decide)) ?_
      repeat walk_at "ri"
      have b3 : Bd 5 (1 - 2 * a13.fmod 2) := by
        unfold In at b2
        unfold Bd
        omega
      refine w_mul (bi.fits (by decide)) (b3.fits (by decide)) ?_
      exact ⟨⟨_, rfl, (bi.mul b3).mono (by decide)⟩, x0.trans x2⟩
    refine w_mod (by decide) ?_
    repeat walk_at "ri"
    refine br_d (fun _ => ?_) (fun _ => ?_)
    · repeat walk_at "ri"
      have x1 := Ext.app s1 [.lst [.int 1, .int 2, .int 4, .int 8, .int 16, .int 32]]
      have e1 := x1.seq e0
      have n1 : seqOf (s1 ++ [.lst [.int 1, .int 2, .int 4, .int 8, .int 16, .int 32]]) (.ref s1.length) = some [.int 1, .int 2, .int 4, .int 8, .int 16, .int 32] := lst_new s1 [.int 1, .int 2, .int 4, .int 8, .int 16, .int 32]
      generalize s1 ++ [.lst [.int 1, .int 2, .int 4, .int 8, .int 16, .int 32]] = s2 at *
      repeat walk_at "ri"
      refine w_mod (by decide) ?_
      have j1 : In 6 (a1.fmod 6) := In.mod (by decide)
      refine pick (P := IntB 6) n1 (by simp [IntB]; unfold Bd; decide) j1.1 j1.2 ?_
      rintro _ ⟨u1, rfl, b1⟩
      repeat walk_at "ri"
      have y2 := Ext.app s2 [.lst [.int 1, .int 3, .int 9, .int 27]]
      have e2 := y2.seq e1
      have n2 : seqOf (s2 ++ [.lst [.int 1, .int 3, .int 9, .int 27]]) (.ref s2.length) = some [.int 1, .int 3, .int 9, .int 27] := lst_new s2 [.int 1, .int 3, .int 9, .int 27]
      generalize s2 ++ [.lst [.int 1, .int 3, .int 9, .int 27]] = s3 at *
      repeat walk_at "ri"
      refine w_mod (by decide) ?_
      have j2 : In 4 (a2.fmod 4) := In.mod (by decide)
      refine pick (P := IntB 6) n2 (by simp [IntB]; unfold Bd; decide) j2.1 j2.2 ?_
      rintro _ ⟨u2, rfl, b2⟩
      refine w_mul (b1.fits (by decide)) (b2.fits (by decide)) ?_
      repeat walk_at "ri"
      have y3 := Ext.app s3 [.lst [.int 1, .int 5, .int 25]]
      have e3 := y3.seq e2
      have n3 : seqOf (s3 ++ [.lst [.int 1, .int 5, .int 25]]) (.ref s3.length) = some [.int 1, .int 5, .int 25] := lst_new s3 [.int 1, .int 5, .int 25]
      generalize s3 ++ [.lst [.int 1, .int 5, .int 25]] = s4 at *
      repeat walk_at "ri"
      refine w_mod (by decide) ?_
      have j3 : In 3 (a3.fmod 3) := In.mod (by decide)
      refine pick (P := IntB 6) n3 (by simp [IntB]; unfold Bd; decide) j3.1 j3.2 ?_
      rintro _ ⟨u3, rfl, b3⟩
      refine w_mul ((b1.mul b2).fits (by decide)) (b3.fits (by decide)) ?_
      repeat walk_at "ri"
      have b4 : Bd 7 (a4 + 1) := (i4.bd (n := 6) (by decide)).add (Bd.mono bd1 (by decide))
      refine w_mul (((b1.mul b2).mul b3).fits (by decide)) (b4.fits (by decide)) ?_
      repeat walk_at "ri"
      exact tail _ _ ((((b1.mul b2).mul b3).mul b4).mono (by decide)) ((x1.trans y2).trans y3)
    · repeat walk_at "ri"
      refine w_mod (by decide) ?_
      repeat walk_at "ri"
      refine br_d (fun _ => ?_) (fun _ => ?_)
      · repeat walk_at "ri"
        refine w_pow (by decide) ?_
        rw [p30]
        repeat walk_at "ri"
        refine tail _ _ ?_ (Ext.refl s1)
        unfold In at i1
        unfold Bd
        omega
      · repeat walk_at "ri"
        refine w_mod (by decide) ?_
        repeat walk_at "ri"
        refine br_d (fun _ => ?_) (fun _ => ?_)
        · repeat walk_at "ri"
          refine f_rng ?_
          repeat walk_at "ri"
          refine w_mod (by decide) ?_
          have j1 : In 15 (a1.fmod 15) := In.mod (by decide)
          repeat walk_at "ri"
          unfold In at j1
          refine ⟨_, fun j ρ s' => s' = s1 ∧ j ≤ 15 ∧ ∃ (i : Int) (x : Option D), 0 ≤ i ∧ i < 60 ^ (j + 1) ∧ ρ = [some (.int c), some (.ref s.length), some (.int i), x], rfl, ⟨by omega, by omega⟩, ⟨rfl, by omega, a1, none, i1.1, i1.2, rfl⟩, ?_, ?_⟩
          · rintro j ρ s' hj ⟨rfl, hj2, i, x, h0, h1, rfl⟩
            dsimp only [List.set]
            repeat walk_at "ri"
            refine w_mul ((pow_bd h0 h1 hj2).fits (by decide)) (Bd.fits (n := 6) (by unfold Bd; decide) (by decide)) ?_
            repeat walk_at "ri"
            refine w_mod (by decide) ?_
            repeat walk_at "ri"
            have j2 : In 10 (Int.fmod (j : Int) 10) := In.mod (by decide)
            unfold In at j2
            refine pick (P := Int60) e0 ?_ (by omega) (by simp only [List.length_cons, List.length_nil]; omega) ?_
            · intro y hy
              have : y ∈ ([a0, a1, a2, a3, a4, a5, a6, a7, a8, a9, a10, a11, a12, a13].map D.int) := hy
              obtain ⟨z, hz, rfl⟩ := List.mem_map.mp this
              exact ⟨z, rfl, hi z hz⟩
            · rintro _ ⟨z, rfl, hz⟩
              repeat walk_at "ri"
              obtain ⟨q0, q1⟩ := pow_step h0 h1 hz
              exact ⟨rfl, by omega, _, _, q0, q1, rfl⟩
          · rintro ρ s' ⟨rfl, hj2, i, x, h0, h1, rfl⟩
            repeat walk_at "ri"
            exact tail _ _ (pow_bd h0 h1 hj2) (Ext.refl _)
        · repeat walk_at "ri"
          refine w_mod (by decide) ?_
          repeat walk_at "ri"
          refine br_d (fun _ => ?_) (fun _ => ?_)
          · repeat walk_at "ri"
            refine w_mod (by decide) ?_
            repeat walk_at "ri"
            exact tail _ _ ((@In.mod a1 3 (by decide)).bd (n := 2) (by decide) |>.mono (by decide)) (Ext.refl _)
          · repeat walk_at "ri"
            exact tail _ _ (i1.bd (n := 6) (by decide) |>.mono (by decide)) (Ext.refl _)
end RK00
set_option maxRecDepth 100000
set_option maxHeartbeats 4000000
set_option exponentiation.threshold 10000
namespace RK00
open PySem L2 RI
variable {k : Nat} {s : Store} {X : Exn → Store → Prop}
/-- an amount as a tuple -/
structure Ta (n : Nat) (d : D) (p q : Int) : Prop where
  eq : d = .tup [.int p, .int q]
  pos : 1 ≤ q
  bp : Bd n p
  bq : Bd n q
theorem Ta.pt {n : Nat} {d : D} {p q : Int} (h : Ta n d p q) (s : Store) : Pt s n d p q := ⟨by rw [h.eq]; rfl, h.pos, h.bp, h.bq⟩
theorem Pt.mono {n m : Nat} {d : D} {p q : Int} (h : Pt s n d p q) (l : n ≤ m) : Pt s m d p q := ⟨h.seq, h.pos, h.bp.mono l, h.bq.mono l⟩
theorem Ta.mono {n m : Nat} {d : D} {p q : Int} (h : Ta n d p q) (l : n ≤ m) : Ta m d p q := ⟨h.eq, h.pos, h.bp.mono l, h.bq.mono l⟩
theorem ta_nrm {n : Nat} {t b : Int} (h : b ≠ 0) (bt : Bd n t) (bb : Bd n b) : Ta n (.tup [.int (nrmP t b), .int (nrmQ t b)]) (nrmP t b) (nrmQ t b) := ⟨rfl, (nrm_am h).pos, bt.le (nrm_le h).1, bb.le (nrm_le h).2⟩
theorem second_ok {p q t b : Int} {r : D} {a0 a1 a2 a3 a4 a5 a6 a7 : Int} (h1 : Ta 210 (.tup [.int p, .int q]) p q) (bt : Bd 210 t) (bb : Bd 210 b) (hb : b ≠ 0) (hr : seqOf s r = some [.int a0, .int a1, .int a2, .int a3, .int a4, .int a5, .int a6, .int a7]) (i2 : In 60 a2) :
    wp (runD tab (k + 3) d_law_second [.tup [.int p, .int q], .int t, .int b, r] s) (fun v s' => (∃ t u, Ta 400 v t u) ∧ Ext s s') X := by
  have hp := h1.bp
  have hq := h1.bq
  have h0 := h1.pos
  refine run_L_second ?_
  dsimp only [d_law_second]
  repeat walk_at "ri"
  refine w_mod (by decide) ?_
  repeat walk_at "ri"
  generalize Int.fmod a1 8 = kd
  refine br_d (fun _ => ?_) (fun _ => ?_)
  · repeat walk_at "ri"
    exact ⟨⟨p, q, h1.mono (by decide)⟩, Ext.refl s⟩
  repeat walk_at "ri"
  refine br_d (fun _ => ?_) (fun _ => ?_)
  · repeat walk_at "ri"
    refine ⟨⟨0 - p, q, rfl, h0, ?_, hq.mono (by decide)⟩, Ext.refl s⟩
    exact (Bd.sub (Bd.mono bd0 (by decide)) hp).mono (by decide)
  repeat walk_at "ri"
  have rest : ∀ (s : Store), wf (exSs (tb tab (k + 2)) (Ss.of [.ife (.cmp .Eq (.var 4) (.c (.int 6))) (Ss.of [.ret (.tup (Es.of [.c (.int 0), .c (.int 1)]))]) (Ss.of []), .ife (.cmp .Eq (.var 4) (.c (.int 7))) (Ss.of [.ret (.call "_law_amount" (Es.of [.var 1, .ix (.var 0) (.c (.int 1))]))]) (Ss.of []), .ret (.call "_law_amount" (Es.of [.var 1, .var 2]))])
      [some (.tup [.int p, .int q]), some (.int t), some (.int b), some r, some (.int kd)] s) (fun _ s' => (∃ t u, Ta 400 .non t u) ∧ Ext s s') (fun v s' => (∃ t u, Ta 400 v t u) ∧ Ext s s') (fun _ _ => False) (fun _ _ => False) (fun x _ s1 => X x s1) := by
    intro s
    repeat walk_at "ri"
    refine br_d (fun _ => ?_) (fun _ => ?_)
    · repeat walk_at "ri"
      exact ⟨⟨0, 1, rfl, by decide, Bd.mono bd0 (by decide), Bd.mono bd1 (by decide)⟩, Ext.refl s⟩
    repeat walk_at "ri"
    refine br_d (fun _ => ?_) (fun _ => ?_)
    · repeat walk_at "ri"
      refine call_L_amount (w_get (lamount_ok (show q ≠ 0 by omega) (bt.mono (by decide)) (hq.mono (by decide))) ?_)
      rintro _ _ ⟨rfl, rfl⟩
      exact ⟨⟨_, _, (ta_nrm (by omega) bt hq).mono (by decide)⟩, Ext.refl _⟩
    repeat walk_at "ri"
    refine call_L_amount (w_get (lamount_ok hb (bt.mono (by decide)) (bb.mono (by decide))) ?_)
    rintro _ _ ⟨rfl, rfl⟩
    exact ⟨⟨_, _, (ta_nrm hb bt bb).mono (by decide)⟩, Ext.refl _⟩
  refine br_d (fun _ => ?_) (fun _ => ?_)
  · repeat walk_at "ri"
    refine w_pow (by decide) ?_
    generalize (10 : Int) ^ (28 : Int).toNat = T28
    refine w_lt (w_trB (br_d (fun _ => ?_) (fun h28 => ?_)))
    · repeat walk_at "ri"
      refine w_pow (by decide) ?_
      generalize (10 : Int) ^ (28 : Int).toNat = T29
      refine w_lt (w_trB (br_d (fun _ => ?_) (fun _ => ?_)))
      · repeat walk_at "ri"
        have b2 : Bd 7 (2 + a2) := Bd.add (Bd.mono (n := 2) (by unfold Bd; decide) (by decide)) (i2.bd (n := 6) (by decide))
        refine w_mul (hp.fits (by decide)) (b2.fits (by decide)) ?_
        repeat walk_at "ri"
        have x1 := Ext.app s [.lst [.int 1, .int (-1)]]
        have e1 := x1.seq hr
        have n1 : seqOf (s ++ [.lst [.int 1, .int (-1)]]) (.ref s.length) = some [.int 1, .int (-1)] := lst_new s _
        generalize s ++ [.lst [.int 1, .int (-1)]] = s2 at *
        repeat walk_at "ri"
        refine w_mod (by decide) ?_
        have j1 : In 2 (a3.fmod 2) := In.mod (by decide)
        refine pick (P := IntB 6) n1 (by simp [IntB]; unfold Bd; decide) j1.1 j1.2 ?_
        rintro _ ⟨u1, rfl, b1⟩
        repeat walk_at "ri"
        refine w_mul (hq.fits (by decide)) (b2.fits (by decide)) ?_
        repeat walk_at "ri"
        have n0 : q * (2 + a2) ≠ 0 := Int.mul_ne_zero (by omega) (by unfold In at i2; omega)
        have c1 : Bd 218 (p * (2 + a2) + u1) := Bd.add (hp.mul b2) (b1.mono (by decide))
        have c2 : Bd 218 (q * (2 + a2)) := (hq.mul b2).mono (by decide)
        refine call_L_amount (w_get (lamount_ok n0 (c1.mono (by decide)) (c2.mono (by decide))) ?_)
        rintro _ _ ⟨rfl, rfl⟩
        exact ⟨⟨_, _, (ta_nrm n0 c1 c2).mono (by decide)⟩, x1⟩
      · exact f_nil (rest s)
    · rw [decide_eq_false h28]
      exact w_trB (br_f (f_nil (rest s)))
  · rename_i h5
    rw [decide_eq_false h5]
    exact w_trB (br_f (f_nil (rest s)))
end RK00
set_option maxRecDepth 100000
set_option maxHeartbeats 4000000
set_option exponentiation.threshold 10000
namespace RK00
open PySem L2 RI
variable {k : Nat} {s : Store} {X : Exn → Store → Prop}
theorem kn_bl (b : Bool) : Kn s (.bl b) := ⟨fun t => decide (t = .bool) || decide (t = .int), fun _ => rfl⟩
theorem kn_str (x : Str) : Kn s (.str x) := ⟨fun t => decide (t = .str), fun _ => rfl⟩
theorem kn_non : Kn s .non := ⟨fun _ => false, fun _ => rfl⟩
theorem kn_tup (l : List D) : Kn s (.tup l) := ⟨fun t => decide (t = .tuple), fun _ => rfl⟩
theorem kn_odc {n : Nat} (h : s[n]? = some .odc) : Kn s (.ref n) := ⟨fun t => decide (t = .dict), fun t => by
  show (match s[n]? with
    | some (.lst _) => some (decide (t = Ty.list))
    | some (.dct _) => some (decide (t = Ty.dict))
    | some .odc => some (decide (t = Ty.dict))
    | _ => none) = _
  rw [h]⟩
theorem Kn.mono {s s1 : Store} (x : Ext s s1) {d : D} (h : Kn s d) : Kn s1 d := by
  obtain ⟨f, hf⟩ := h
  refine ⟨f, fun t => ?_⟩
  have q := hf t
  cases d with
  | ref n =>
    have q' : (match s[n]? with
      | some (.lst _) => some (decide (t = .list))
      | some (.dct _) => some (decide (t = .dict))
      | some .odc => some (decide (t = .dict))
      | _ => none) = some (f t) := q
    show (match s1[n]? with
      | some (.lst _) => some (decide (t = .list))
      | some (.dct _) => some (decide (t = .dict))
      | some .odc => some (decide (t = .dict))
      | _ => none) = some (f t)
    cases e : s[n]? with
    | none => rw [e] at q'; cases q'
    | some o => rw [x.get e]; rw [e] at q'; exact q'
  | _ => exact q
theorem Gd.mono {s s1 : Store} (x : Ext s s1) {d : D} (h : Gd s d) : Gd s1 d := by
  cases h with
  | oth k n => exact .oth (k.mono x) n
  | len n => exact .len n
  | two a b c d => exact .two (a.mono x) (b.mono x) c d
theorem gd_int (i : Int) : Gd s (.int i) := .oth (kn_int i) (fun _ h => by cases h)
theorem gd_bl (i : Bool) : Gd s (.bl i) := .oth (kn_bl i) (fun _ h => by cases h)
theorem gd_str (i : Str) : Gd s (.str i) := .oth (kn_str i) (fun _ h => by cases h)
theorem gd_non : Gd s .non := .oth kn_non (fun _ h => by cases h)
theorem gd_odc {n : Nat} (h : s[n]? = some .odc) : Gd s (.ref n) := .oth (kn_odc h) (fun _ h => by cases h)
/-- a pair of which one is no whole number -/
theorem gd_two {x y : D} (hx : Kn s x) (hy : Kn s y) (bx : ∀ i, x = .int i → Bd 8000 i) (bY : ∀ i, y = .int i → Bd 8000 i) : Gd s (.tup [x, y]) := .two hx hy bx bY
theorem nb {x : D} (h : wholeD x = false) : ∀ i, x = .int i → Bd 8000 i := fun i e => by
  subst e
  cases h
theorem ib {i : Int} (h : Bd 8000 i) : ∀ j, D.int i = .int j → Bd 8000 j := fun j e => by
  cases e
  exact h
/-- two such lists together -/
theorem addG {n : Nat} {ln lm : List D} (e : s[n]? = some (.lst ln)) (c : ∀ d ∈ ln, Gd s d) (g : ∀ d ∈ lm, Gd s d) (b : ln.length + lm.length ≤ 1000) {Q : D → Store → Prop}
    (q : ∀ (s2 : Store) (m : Nat) (l2 : List D), Ext s s2 → s2[m]? = some (.lst l2) → (∀ d ∈ l2, Gd s2 d) → l2.length = ln.length + lm.length → s.length ≤ m → Q (.ref m) s2) : wp (binD .Add (.ref n) (.ref s.length) (s ++ [.lst lm])) Q X := by
  have x1 := Ext.app s [.lst lm]
  refine w_addL (x1.get e) (get_new s _) (by unfold most; omega) ?_
  have x2 := Ext.app (s ++ [.lst lm]) [.lst (ln ++ lm)]
  refine q _ _ (ln ++ lm) (x1.trans x2) (get_new _ _) ?_ List.length_append (by rw [List.length_append]; omega)
  intro d hd
  rcases List.mem_append.mp hd with h | h
  · exact (c d h).mono (x1.trans x2)
  · exact (g d h).mono (x1.trans x2)
theorem values_ok {p q t u top low : Int} {n : Nat} {a0 a1 a2 a3 a4 a5 a6 a7 : Int} (h1 : Ta 400 (.tup [.int p, .int q]) p q) (h2 : Ta 400 (.tup [.int t, .int u]) t u) (bt : Bd 400 top) (bl : Bd 400 low)
    (hr : seqOf s (.ref n) = some [.int a0, .int a1, .int a2, .int a3, .int a4, .int a5, .int a6, .int a7]) (i4 : In 60 a4) :
    wp (runD tab (k + 1) d_law_values [.tup [.int p, .int q], .tup [.int t, .int u], .int top, .int low, .ref n] s) (fun v s' => ∃ m l, v = .ref m ∧ Ext s s' ∧ lstOf s' (.ref m) = some l ∧ ∀ d ∈ l, Gd s' d) X := by
  have hp := h1.bp
  have hq := h1.bq
  have hp8 : Bd 8000 p := hp.mono (by decide)
  have hq8 : Bd 8000 q := hq.mono (by decide)
  have b0 : Bd 8000 0 := Bd.mono bd0 (by decide)
  have b1 : Bd 8000 1 := Bd.mono bd1 (by decide)
  have np : Bd 8000 (0 - p) := ((Bd.mono bd0 (by decide)).sub hp).mono (by decide)
  have nq : Bd 8000 (0 - q) := ((Bd.mono bd0 (by decide)).sub hq).mono (by decide)
  refine run_L_values ?_
  dsimp only [d_law_values]
  repeat walk_at "ri"
  have G1 : ∀ d ∈ ([.tup [.int p, .int q], .tup [.int t, .int u], .tup [.int top, .int low], .tup [.int p, .int (0 - q)], .tup [.int p, .int 0], .tup [.int (0 - p), .int q], .tup [.int q, .int p]] : List D), Gd s d := by
    simp only [List.forall_mem_cons, List.not_mem_nil, false_implies, implies_true, and_true]
    exact ⟨gd_am hp8 hq8, gd_am (h2.bp.mono (by decide)) (h2.bq.mono (by decide)), gd_am (bt.mono (by decide)) (bl.mono (by decide)), gd_am hp8 nq, gd_am hp8 b0, gd_am np hq8, gd_am hq8 hp8⟩
  have V1 := get_new s (.lst [.tup [.int p, .int q], .tup [.int t, .int u], .tup [.int top, .int low], .tup [.int p, .int (0 - q)], .tup [.int p, .int 0], .tup [.int (0 - p), .int q], .tup [.int q, .int p]])
  have x1 := Ext.app s [.lst [.tup [.int p, .int q], .tup [.int t, .int u], .tup [.int top, .int low], .tup [.int p, .int (0 - q)], .tup [.int p, .int 0], .tup [.int (0 - p), .int q], .tup [.int q, .int p]]]
  refine addG V1 (fun d hd => (G1 d hd).mono x1) ?_ (by simp only [List.length_cons, List.length_nil]; omega) ?_
  · simp only [List.forall_mem_cons, List.not_mem_nil, false_implies, implies_true, and_true]
    exact ⟨.len (by simp), .len (by simp), .len (by simp), gd_int p, gd_non, gd_bl _, gd_bl _, gd_str _, gd_two (kn_int p) (kn_str _) (ib hp8) (nb rfl), gd_two (kn_str _) (kn_int 1) (nb rfl) (ib b1)⟩
  intro s2 m2 l2 x2 V2 G2 len2 le2
  repeat walk_at "ri"
  refine addG V2 G2 ?_ (by rw [len2]; simp only [List.length_cons, List.length_nil]; omega) ?_
  · simp only [List.forall_mem_cons, List.not_mem_nil, false_implies, implies_true, and_true]
    exact ⟨gd_two (kn_bl _) (kn_int _) (nb rfl) (ib hq8), gd_two (kn_int _) (kn_bl _) (ib hp8) (nb rfl), gd_two (kn_bl _) (kn_int _) (nb rfl) (ib b1), gd_two (kn_int _) (kn_bl _) (ib b1) (nb rfl), gd_two kn_non (kn_int _) (nb rfl) (ib b1), gd_two (kn_tup _) (kn_tup _) (nb rfl) (nb rfl), .len (by simp), gd_two (kn_int _) (kn_tup _) (ib b0) (nb rfl)⟩
  intro s3 m3 l3 x3 V3 G3 len3 le3
  repeat walk_at "ri"
  refine w_dicK (get_new _ _) rfl ?_
  rw [set_new]
  have x4 := Ext.app s3 [.odc]
  have O4 := get_new s3 .odc
  generalize he4 : s3 ++ [.odc] = s4 at *
  repeat walk_at "ri"
  refine w_dicK (get_new _ _) rfl ?_
  rw [set_new]
  have x5 := Ext.app s4 [.odc]
  have O5 := get_new s4 .odc
  generalize he5 : s4 ++ [.odc] = s5 at *
  repeat walk_at "ri"
  refine addG ((x4.trans x5).get V3) (fun d hd => (G3 d hd).mono (x4.trans x5)) ?_ (by rw [len3, len2]; simp only [List.length_cons, List.length_nil]; omega) ?_
  · simp only [List.forall_mem_cons, List.not_mem_nil, false_implies, implies_true, and_true]
    exact ⟨gd_odc (x5.get O4), gd_odc O5⟩
  intro s6 m6 l6 x6 V6 G6 len6 le6
  have xx : Ext s s6 := ((((x1.trans x2).trans x3).trans x4).trans x5).trans x6
  have lm : s.length ≤ m6 := Nat.le_trans ((((x1.trans x2).trans x3).trans x4).trans x5).len le6
  have hr6 := xx.seq hr
  have len6' : l6.length ≤ 100 := by rw [len6, len3, len2]; simp only [List.length_cons, List.length_nil]; omega
  repeat walk_at "ri"
  refine w_pow (by decide) ?_
  generalize (10 : Int) ^ (28 : Int).toNat = T28
  refine w_lt (w_trB (br_d (fun _ => ?_) (fun h28 => ?_)))
  · repeat walk_at "ri"
    refine w_pow (by decide) ?_
    generalize (10 : Int) ^ (28 : Int).toNat = T29
    refine w_lt (w_trB (br_d (fun _ => ?_) (fun _ => ?_)))
    · repeat walk_at "ri"
      refine ⟨?_, ?_⟩
      · show (match s6[m6]? with
          | some (.lst _) => true
          | _ => false) = true
        rw [V6]
      · repeat walk_at "ri"
        have b4 : Bd 7 (2 + a4) := Bd.add (Bd.mono (n := 2) (by unfold Bd; decide) (by decide)) (i4.bd (n := 6) (by decide))
        refine w_mul (hp.fits (by decide)) (b4.fits (by decide)) ?_
        repeat walk_at "ri"
        refine w_mul (hq.fits (by decide)) (b4.fits (by decide)) ?_
        repeat walk_at "ri"
        refine w_appK V6 (by unfold most; omega) ?_
        repeat walk_at "ri"
        have hm : m6 < s6.length := (List.getElem?_eq_some_iff.mp V6).1
        refine ⟨m6, l6 ++ [.tup [.int (p * (2 + a4)), .int (q * (2 + a4))]], rfl, xx.set lm, lst_at (List.getElem?_set_self hm), ?_⟩
        have kn : ∀ d, Kn s6 d → Kn (s6.set m6 (.lst (l6 ++ [.tup [.int (p * (2 + a4)), .int (q * (2 + a4))]]))) d := by
          intro d ⟨f, hf⟩
          refine ⟨f, fun ty => ?_⟩
          have z := hf ty
          cases d with
          | ref n =>
            by_cases e : m6 = n
            · subst e
              have z' : (match s6[m6]? with
                | some (.lst _) => some (decide (ty = Ty.list))
                | some (.dct _) => some (decide (ty = Ty.dict))
                | some .odc => some (decide (ty = Ty.dict))
                | _ => none) = some (f ty) := z
              show (match (s6.set m6 (.lst (l6 ++ [.tup [.int (p * (2 + a4)), .int (q * (2 + a4))]])))[m6]? with
                | some (.lst _) => some (decide (ty = Ty.list))
                | some (.dct _) => some (decide (ty = Ty.dict))
                | some .odc => some (decide (ty = Ty.dict))
                | _ => none) = some (f ty)
              rw [V6] at z'
              rw [List.getElem?_set_self hm]
              exact z'
            · have z' : (match s6[n]? with
                | some (.lst _) => some (decide (ty = Ty.list))
                | some (.dct _) => some (decide (ty = Ty.dict))
                | some .odc => some (decide (ty = Ty.dict))
                | _ => none) = some (f ty) := z
              show (match (s6.set m6 (.lst (l6 ++ [.tup [.int (p * (2 + a4)), .int (q * (2 + a4))]])))[n]? with
                | some (.lst _) => some (decide (ty = Ty.list))
                | some (.dct _) => some (decide (ty = Ty.dict))
                | some .odc => some (decide (ty = Ty.dict))
                | _ => none) = some (f ty)
              rw [List.getElem?_set_ne e]
              exact z'
          | _ => exact z
        have gd : ∀ d, Gd s6 d → Gd (s6.set m6 (.lst (l6 ++ [.tup [.int (p * (2 + a4)), .int (q * (2 + a4))]]))) d := fun d h => by
          cases h with
          | oth a n => exact .oth (kn _ a) n
          | len n => exact .len n
          | two a b c d => exact .two (kn _ a) (kn _ b) c d
        intro d hd
        rcases List.mem_append.mp hd with h | h
        · exact gd d (G6 d h)
        · have e : d = .tup [.int (p * (2 + a4)), .int (q * (2 + a4))] := by simpa using h
          subst e
          exact gd_am ((hp.mul b4).mono (by decide)) ((hq.mul b4).mono (by decide))
    · repeat walk_at "ri"
      exact ⟨m6, l6, rfl, xx, lst_at V6, G6⟩
  · rw [decide_eq_false h28]
    repeat walk_at "ri"
    exact ⟨m6, l6, rfl, xx, lst_at V6, G6⟩
end RK00
set_option maxRecDepth 100000
set_option maxHeartbeats 4000000
set_option exponentiation.threshold 10000
namespace RK00
open PySem L2 RI
variable {k : Nat} {s : Store} {X : Exn → Store → Prop}
theorem passed_ok {p q t u top low : Int} (h1 : Ta 400 (.tup [.int p, .int q]) p q) (h2 : Ta 400 (.tup [.int t, .int u]) t u) (bt : Bd 700 top) (bl : Bd 700 low) (hl : low ≠ 0) :
    wp (runD tab (k + 5) d_law_passed_again [.tup [.int p, .int q], .tup [.int t, .int u], .int top, .int low] s) (fun v s' => v = .bl true) X := by
  have hL := ta_nrm hl bt bl
  have bt8 : Bd 8000 top := bt.mono (by decide)
  have bl8 : Bd 8000 low := bl.mono (by decide)
  refine run_L_passed_again ?_
  dsimp only [d_law_passed_again]
  repeat walk_at "ri"
  refine call_amount (w_get (amount_ok hl bl8) ?_)
  rintro _ _ ⟨rfl, rfl⟩
  have toldL : ∀ {k : Nat} {s : Store} {X : Exn → Store → Prop}, wp (runD tab (k + 3) d_law_told [.tup [.int (nrmP top low), .int (nrmQ top low)], .int top, .int low] s) (fun v s' => v = .bl true ∧ s' = s) X := told_nrm hl bt8 bl8
  generalize nrmP top low = P at *
  generalize nrmQ top low = Q at *
  repeat walk_at "ri"
  refine call_L_told (w_get toldL ?_)
  rintro _ _ ⟨rfl, rfl⟩
  repeat walk_at "ri"
  refine call_L_operations (w_get (oper_ok ((hL.pt _).mono (by decide)) ((h2.pt _).mono (by decide))) ?_)
  rintro _ _ ⟨rfl, rfl⟩
  repeat walk_at "ri"
  have Q0 : Q ≠ 0 := by have := hL.pos; omega
  have q0 : q ≠ 0 := by have := h1.pos; omega
  have bPP : Bd 1400 (P * P) := hL.bp.mul hL.bp
  have bQQ : Bd 1400 (Q * Q) := hL.bq.mul hL.bq
  have QQ : Q * Q ≠ 0 := Int.mul_ne_zero Q0 Q0
  have bT : Bd 1101 (P * q + p * Q) := Bd.add (hL.bp.mul h1.bq) ((h1.bp.mul hL.bq).mono (by decide))
  have bU : Bd 1101 (Q * q) := (hL.bq.mul h1.bq).mono (by decide)
  have QU : Q * q ≠ 0 := Int.mul_ne_zero Q0 q0
  have hS := ta_nrm QQ bPP bQQ
  have hT := ta_nrm QU bT bU
  have toldS : ∀ {k : Nat} {s : Store} {X : Exn → Store → Prop}, wp (runD tab (k + 3) d_law_told [.tup [.int (nrmP (P * P) (Q * Q)), .int (nrmQ (P * P) (Q * Q))], .int (P * P), .int (Q * Q)] s) (fun v s' => v = .bl true ∧ s' = s) X := told_nrm QQ (bPP.mono (by decide)) (bQQ.mono (by decide))
  have toldT : ∀ {k : Nat} {s : Store} {X : Exn → Store → Prop}, wp (runD tab (k + 3) d_law_told [.tup [.int (nrmP (P * q + p * Q) (Q * q)), .int (nrmQ (P * q + p * Q) (Q * q))], .int (P * q + p * Q), .int (Q * q)] s) (fun v s' => v = .bl true ∧ s' = s) X := told_nrm QU (bT.mono (by decide)) (bU.mono (by decide))
  refine call_times (w_get (times_ok ((hL.pt _).mono (by decide)) ((hL.pt _).mono (by decide))) ?_)
  rintro _ _ ⟨rfl, rfl⟩
  repeat walk_at "ri"
  refine call_plus (w_get (plus_ok ((hL.pt _).mono (by decide)) ((h1.pt _).mono (by decide))) ?_)
  rintro _ _ ⟨rfl, rfl⟩
  generalize nrmP (P * P) (Q * Q) = SP at *
  generalize nrmQ (P * P) (Q * Q) = SQ at *
  generalize nrmP (P * q + p * Q) (Q * q) = TP at *
  generalize nrmQ (P * q + p * Q) (Q * q) = TQ at *
  repeat walk_at "ri"
  refine w_mul (hL.bp.fits (by decide)) (hL.bp.fits (by decide)) ?_
  repeat walk_at "ri"
  refine w_mul (hL.bq.fits (by decide)) (hL.bq.fits (by decide)) ?_
  repeat walk_at "ri"
  refine call_L_told (w_get toldS ?_)
  rintro _ _ ⟨rfl, rfl⟩
  repeat walk_at "ri"
  refine w_mul (hL.bp.fits (by decide)) (h1.bq.fits (by decide)) ?_
  repeat walk_at "ri"
  refine w_mul (h1.bp.fits (by decide)) (hL.bq.fits (by decide)) ?_
  repeat walk_at "ri"
  refine w_mul (hL.bq.fits (by decide)) (h1.bq.fits (by decide)) ?_
  repeat walk_at "ri"
  refine call_L_told (w_get toldT ?_)
  rintro _ _ ⟨rfl, rfl⟩
  repeat walk_at "ri"
  have b2 : Bd 2 2 := by unfold Bd; decide
  have b3 : Bd 2 3 := by unfold Bd; decide
  refine w_mul (b2.fits (by decide)) (hT.bp.fits (by decide)) ?_
  repeat walk_at "ri"
  refine w_mul (b2.fits (by decide)) (hT.bq.fits (by decide)) ?_
  repeat walk_at "ri"
  refine w_mul (hL.bp.fits (by decide)) (b3.fits (by decide)) ?_
  repeat walk_at "ri"
  refine w_mul (hL.bq.fits (by decide)) (b3.fits (by decide)) ?_
  repeat walk_at "ri"
  rename_i s0
  have V0 := get_new s0 (.lst [.tup [.int SP, .int (0 - SQ)], .tup [.int (2 * TP), .int (2 * TQ)], .tup [.int P, .int 0], .tup [.int (P * 3), .int (Q * 3)]])
  have G0 : ∀ d ∈ ([.tup [.int SP, .int (0 - SQ)], .tup [.int (2 * TP), .int (2 * TQ)], .tup [.int P, .int 0], .tup [.int (P * 3), .int (Q * 3)]] : List D), ∀ s, Gd s d := by
    simp only [List.forall_mem_cons, List.not_mem_nil, false_implies, implies_true, and_true]
    exact ⟨fun s => gd_am (hS.bp.mono (by decide)) (((Bd.mono bd0 (by decide)).sub hS.bq).mono (by decide)), fun s => gd_am ((b2.mul hT.bp).mono (by decide)) ((b2.mul hT.bq).mono (by decide)), fun s => gd_am (hL.bp.mono (by decide)) (Bd.mono bd0 (by decide)), fun s => gd_am ((hL.bp.mul b3).mono (by decide)) ((hL.bq.mul b3).mono (by decide))⟩
  generalize hn : ([.tup [.int SP, .int (0 - SQ)], .tup [.int (2 * TP), .int (2 * TQ)], .tup [.int P, .int 0], .tup [.int (P * 3), .int (Q * 3)]] : List D) = L0 at *
  have len0 : L0.length = 4 := by rw [← hn]; rfl
  generalize hs1 : s0 ++ [.lst L0] = s1 at *
  have V1 := get_new s1 (.lst [.tup [.int P, .int Q], .tup [.int SP, .int SQ], .tup [.int TP, .int TQ]])
  have x1 := Ext.app s1 [.lst [.tup [.int P, .int Q], .tup [.int SP, .int SQ], .tup [.int TP, .int TQ]]]
  have G1 : ∀ d ∈ ([.tup [.int P, .int Q], .tup [.int SP, .int SQ], .tup [.int TP, .int TQ]] : List D), ∀ s, Gd s d := by
    simp only [List.forall_mem_cons, List.not_mem_nil, false_implies, implies_true, and_true]
    exact ⟨fun s => gd_am (hL.bp.mono (by decide)) (hL.bq.mono (by decide)), fun s => gd_am (hS.bp.mono (by decide)) (hS.bq.mono (by decide)), fun s => gd_am (hT.bp.mono (by decide)) (hT.bq.mono (by decide))⟩
  generalize hn1 : ([.tup [.int P, .int Q], .tup [.int SP, .int SQ], .tup [.int TP, .int TQ]] : List D) = L1 at *
  have len1 : L1.length = 3 := by rw [← hn1]; rfl
  refine w_addL V1 (x1.get V0) (by unfold most; omega) ?_
  repeat walk_at "ri"
  refine call_L_judged (w_get (judged_ok (lst_new _ _) ?_) ?_)
  · intro d hd
    rcases List.mem_append.mp hd with h | h
    · exact G1 d h _
    · exact G0 d h _
  rintro _ _ ⟨rfl, rfl⟩
  repeat walk_at "ri"
  refine call_L_operations (w_get (oper_ok ((hT.pt _).mono (by decide)) ((hS.pt _).mono (by decide))) ?_)
  rintro _ _ ⟨rfl, rfl⟩
  rfl
end RK00
set_option maxRecDepth 100000
set_option maxHeartbeats 4000000
set_option exponentiation.threshold 10000
namespace RK00
open PySem L2 RI
variable {k : Nat} {s : Store} {X : Exn → Store → Prop}
theorem eight {l : List Int} (h : l.length = 8) : ∃ a0 a1 a2 a3 a4 a5 a6 a7, l = [a0, a1, a2, a3, a4, a5, a6, a7] := by
  match l, h with
  | [a0, a1, a2, a3, a4, a5, a6, a7], _ => exact ⟨a0, a1, a2, a3, a4, a5, a6, a7, rfl⟩
def nz (x : Int) : Int := x + (if decide (x = 0) = true then 1 else 0)
theorem nz_eq (x : Int) : (x + (if decide (x = 0) = true then 1 else 0)) = nz x := rfl
theorem nz_ne (x : Int) : nz x ≠ 0 := by
  unfold nz
  by_cases h : x = 0
  · rw [decide_eq_true h, if_pos rfl, h]
    decide
  · rw [decide_eq_false h, if_neg Bool.false_ne_true, Int.add_zero]
    exact h
theorem nz_bd {n : Nat} {x : Int} (h : Bd n x) (hn : 1 ≤ n) : Bd (n + 1) (nz x) := by
  unfold nz
  refine h.add ?_
  by_cases h : x = 0
  · rw [decide_eq_true h, if_pos rfl]
    exact Bd.mono bd1 hn
  · rw [decide_eq_false h, if_neg Bool.false_ne_true]
    exact Bd.mono bd0 hn
theorem told_same {P Q z : Int} (hq : 1 ≤ Q) (hz : z ≠ 0) (bP : Bd 210 P) (bQ : Bd 210 Q) (bz : Bd 210 z) : wp (runD tab (k + 3) d_law_told [.tup [.int (nrmP (P * z) (Q * z)), .int (nrmQ (P * z) (Q * z))], .int P, .int Q] s) (fun v s' => v = .bl true ∧ s' = s) X := by
  have n0 : Q * z ≠ 0 := Int.mul_ne_zero (by omega) hz
  have l := nrm_le (t := P * z) n0
  refine told_ok (nrm_am n0) (((bP.mul bz).le l.1).mono (by decide)) (((bQ.mul bz).le l.2).mono (by decide)) (bP.mono (by decide)) (bQ.mono (by decide)) ?_
  have c := nrm_cross (t := P * z) n0
  have e1 : nrmP (P * z) (Q * z) * (Q * z) = (nrmP (P * z) (Q * z) * Q) * z := (Int.mul_assoc _ _ _).symm
  have e2 : P * z * nrmQ (P * z) (Q * z) = (P * nrmQ (P * z) (Q * z)) * z := by
    rw [Int.mul_assoc, Int.mul_comm z, ← Int.mul_assoc]
  rw [e1, e2] at c
  exact Int.eq_of_mul_eq_mul_right hz c
theorem dat_lst {s : Store} {n m : Nat} {l : List D} {xs : List PyData} (h : lstOf s (.ref m) = some l) (g : optAll (l.map (dat s n)) = some xs) : dat s (n + 1) (.ref m) = some (.list xs) := by
  show ((lstOf s (.ref m)).bind fun l => (optAll (l.map (dat s n))).map PyData.list) = some (PyData.list xs)
  rw [h, Option.bind_some, g]
  rfl
theorem eq_self {s : Store} {a b : D} {x : PyData} (h1 : dat s 64 a = some x) (h2 : dat s 64 b = some x) (h3 : SeqAt.shaped x = true) (h4 : PyData.eqv x x = true) : cmpD .NotEq a b s = some false := by
  show (eqD s a b).map not = _
  unfold eqD
  rw [h1, h2]
  dsimp only
  rw [if_pos ⟨h3, h3⟩, h4]
  rfl
theorem law_ok {n : Nat} {ns : List Int} (hs : lstOf s (.ref n) = some (ns.map D.int)) : wp (runD tab (k + 6) d_law [.ref n] s) (fun v _ => v = .bl true) X := by
  refine run_law ?_
  dsimp only [d_law]
  repeat walk_at "ri"
  refine call_L_cell (w_get (cell_ok hs (by unfold In; omega)) ?_)
  rintro _ _ ⟨⟨c4, rfl⟩, rfl⟩
  repeat walk_at "ri"
  refine call_L_row (w_get (row_ok (m := 8) (by decide)) ?_)
  rintro _ _ ⟨l, rfl, rfl, hl, hi⟩
  obtain ⟨a0, a1, a2, a3, a4, a5, a6, a7, rfl⟩ := eight hl
  rename_i s0
  have hr : seqOf (s0 ++ [O.lst ([a0, a1, a2, a3, a4, a5, a6, a7].map D.int)]) (.ref s0.length) = some [.int a0, .int a1, .int a2, .int a3, .int a4, .int a5, .int a6, .int a7] := lst_new s0 _
  have x1 := Ext.app s0 [O.lst ([a0, a1, a2, a3, a4, a5, a6, a7].map D.int)]
  have hs := x1.lst hs
  have rl : s0.length < (s0 ++ [O.lst ([a0, a1, a2, a3, a4, a5, a6, a7].map D.int)]).length := by simp
  generalize s0.length = r at *
  generalize s0 ++ [O.lst ([a0, a1, a2, a3, a4, a5, a6, a7].map D.int)] = s1 at *
  have i2 : In 60 a2 := hi a2 (by simp)
  have i4 : In 60 a4 := hi a4 (by simp)
  have i6 : In 60 a6 := hi a6 (by simp)
  repeat walk_at "ri"
  refine call_L_cell (w_get (cell_ok hs (by unfold In; omega)) ?_)
  rintro _ _ ⟨⟨c0, rfl⟩, rfl⟩
  repeat walk_at "ri"
  refine call_L_number (w_get number_ok ?_)
  rintro _ s2 ⟨⟨T0, rfl, bT0⟩, x2⟩
  have hs := x2.lst hs
  have hr := x2.seq hr
  repeat walk_at "ri"
  refine call_L_cell (w_get (cell_ok hs (by unfold In; omega)) ?_)
  rintro _ _ ⟨⟨c2, rfl⟩, rfl⟩
  repeat walk_at "ri"
  refine call_L_number (w_get number_ok ?_)
  rintro _ s3 ⟨⟨T1, rfl, bT1⟩, x3⟩
  have hs := x3.lst hs
  have hr := x3.seq hr
  repeat walk_at "ri"
  have x4 := Ext.app s3 [O.lst [.int T0, .int T1]]
  have V4 := get_new s3 (O.lst [.int T0, .int T1])
  have hs := x4.lst hs
  have hr := x4.seq hr
  have l4 : s3.length < (s3 ++ [O.lst [.int T0, .int T1]]).length := by simp
  have r4 : r < (s3 ++ [O.lst [.int T0, .int T1]]).length := Nat.lt_of_lt_of_le rl ((x2.trans x3).trans x4).len
  generalize s3.length = nt at *
  generalize s3 ++ [O.lst [.int T0, .int T1]] = s4 at *
  refine call_L_cell (w_get (cell_ok hs (by unfold In; omega)) ?_)
  rintro _ _ ⟨⟨c1, rfl⟩, rfl⟩
  repeat walk_at "ri"
  refine call_L_number (w_get number_ok ?_)
  rintro _ s5 ⟨⟨L0, rfl, bL0⟩, x5⟩
  have hs := x5.lst hs
  have hr := x5.seq hr
  have V4 := x5.get V4
  repeat walk_at "ri"
  refine call_L_cell (w_get (cell_ok hs (by unfold In; omega)) ?_)
  rintro _ _ ⟨⟨c3, rfl⟩, rfl⟩
  repeat walk_at "ri"
  refine call_L_number (w_get number_ok ?_)
  rintro _ s6 ⟨⟨L1, rfl, bL1⟩, x6⟩
  have hs := x6.lst hs
  have hr := x6.seq hr
  have V4 := x6.get V4
  refine w_nil ?_
  refine w_lstK rfl ?_
  have x7 := Ext.app s6 [O.lst [.int L0, .int L1]]
  have V7 := get_new s6 (O.lst [.int L0, .int L1])
  have hr := x7.seq hr
  have V4 := x7.get V4
  have n4 : nt ≠ s6.length := Nat.ne_of_lt (Nat.lt_of_lt_of_le l4 (x5.trans x6).len)
  have n7 : r ≠ s6.length := Nat.ne_of_lt (Nat.lt_of_lt_of_le r4 (x5.trans x6).len)
  generalize s6.length = nl at *
  generalize s6 ++ [O.lst [.int L0, .int L1]] = s7 at *
  refine f_cons (f_mono (N' := fun ρ s' => ρ = [some (.ref n), some (.ref r), some (.ref nt), some (.ref nl), none, none, none, none, none, none, none] ∧ ∃ L0 L1, Bd 200 L0 ∧ Bd 200 L1 ∧ s'[nl]? = some (.lst [.int L0, .int L1]) ∧ s'[nt]? = some (.lst [.int T0, .int T1]) ∧ seqOf s' (.ref r) = some [.int a0, .int a1, .int a2, .int a3, .int a4, .int a5, .int a6, .int a7]) ?_ ?_)
  · refine f_ife ?_
    repeat walk_at "ri"
    refine w_mod (by decide) ?_
    repeat walk_at "ri"
    refine br_d (fun _ => ?_) (fun _ => ?_)
    · repeat walk_at "ri"
      refine f_seti ?_
      repeat walk_at "ri"
      refine w_mod (by decide) ?_
      have j2 : In 2 (a5.fmod 2) := In.mod (by decide)
      unfold In at j2
      refine ⟨nl, _, _, (a5.fmod 2).toNat, rfl, rfl, V7, ?_, ?_⟩
      · unfold ixN
        rw [if_pos j2.1, if_pos (by simp only [List.length_cons, List.length_nil]; omega)]
      · have ln : nl < s7.length := (List.getElem?_eq_some_iff.mp V7).1
        have keep : (s7.set nl (.lst ([D.int L0, D.int L1].set (a5.fmod 2).toNat (.int 0))))[r]? = s7[r]? := List.getElem?_set_ne (fun h => n7 h.symm)
        refine f_nil ⟨rfl, ?_⟩
        have hr' : seqOf (s7.set nl (.lst ([D.int L0, D.int L1].set (a5.fmod 2).toNat (.int 0)))) (.ref r) = some [.int a0, .int a1, .int a2, .int a3, .int a4, .int a5, .int a6, .int a7] := by
          show (match (s7.set nl (.lst ([D.int L0, D.int L1].set (a5.fmod 2).toNat (.int 0))))[r]? with
            | some (.lst l) => some l
            | some (.ro l) => some l
            | _ => none) = _
          rw [keep]
          exact hr
        have V4' : (s7.set nl (.lst ([D.int L0, D.int L1].set (a5.fmod 2).toNat (.int 0))))[nt]? = some (.lst [.int T0, .int T1]) := by
          rw [List.getElem?_set_ne (fun h => n4 h.symm)]
          exact V4
        have V7' := List.getElem?_set_self (a := O.lst ([D.int L0, D.int L1].set (a5.fmod 2).toNat (.int 0))) ln
        have j3 : (a5.fmod 2).toNat = 0 ∨ (a5.fmod 2).toNat = 1 := by omega
        rcases j3 with j3 | j3
        · rw [j3] at V7' hr' V4' ⊢
          exact ⟨0, L1, Bd.mono bd0 (by decide), bL1, V7', V4', hr'⟩
        · rw [j3] at V7' hr' V4' ⊢
          exact ⟨L0, 0, bL0, Bd.mono bd0 (by decide), V7', V4', hr'⟩
    · exact f_nil ⟨rfl, L0, L1, bL0, bL1, V7, V4, hr⟩
  clear V7 V4 hr bL0 bL1 x7 x6 x5
  rintro ρ s7 ⟨rfl, L0, L1, bL0, bL1, V7, V4, hr⟩
  have sT : seqOf s7 (.ref nt) = some [.int T0, .int T1] := lst_at V4
  have sL : seqOf s7 (.ref nl) = some [.int L0, .int L1] := lst_at V7
  refine f_cons (f_rng ?_)
  repeat walk_at "ri"
  refine ⟨_, fun _ ρ s' => s' = s7 ∧ ∃ y, ρ = [some (.ref n), some (.ref r), some (.ref nt), some (.ref nl), y, none, none, none, none, none, none], rfl, by decide, ⟨rfl, _, rfl⟩, ?_, ?_⟩
  · rintro j ρ s' hj ⟨rfl, y, rfl⟩
    dsimp only [List.set]
    repeat walk_at "ri"
    refine pick (P := IntB 200) sT (by simp only [List.forall_mem_cons, List.not_mem_nil, false_implies, implies_true, and_true]; exact ⟨⟨_, rfl, bT0⟩, ⟨_, rfl, bT1⟩⟩) (by omega) (by simp only [List.length_cons, List.length_nil]; omega) ?_
    rintro _ ⟨t, rfl, bt⟩
    repeat walk_at "ri"
    refine pick (P := IntB 200) sL (by simp only [List.forall_mem_cons, List.not_mem_nil, false_implies, implies_true, and_true]; exact ⟨⟨_, rfl, bL0⟩, ⟨_, rfl, bL1⟩⟩) (by omega) (by simp only [List.length_cons, List.length_nil]; omega) ?_
    rintro _ ⟨b, rfl, bb⟩
    repeat walk_at "ri"
    refine call_L_made (w_get (made_ok (bt.mono (by decide)) (bb.mono (by decide))) ?_)
    rintro _ _ ⟨rfl, rfl⟩
    repeat walk_at "ri"
    exact ⟨rfl, _, rfl⟩
  rintro ρ s' ⟨rfl, y, rfl⟩
  repeat walk_at "ri"
  rw [nz_eq]
  have z0 := nz_ne L0
  have bz0 := nz_bd bL0 (by decide)
  refine call_L_amount (w_get (lamount_ok (t := T0) z0 (bT0.mono (by decide)) (bz0.mono (by decide))) ?_)
  rintro _ _ ⟨rfl, rfl⟩
  have h1 := ta_nrm (t := T0) z0 ((bT0.mono (by decide)) : Bd 201 T0) bz0
  generalize nrmP T0 (nz L0) = P at *
  generalize nrmQ T0 (nz L0) = Q at *
  repeat walk_at "ri"
  rw [nz_eq]
  have z1 := nz_ne L1
  have bz1 := nz_bd bL1 (by decide)
  have h1' : Ta 210 (.tup [.int P, .int Q]) P Q := h1.mono (by decide)
  have bT1' : Bd 210 T1 := bT1.mono (by decide)
  have bz1' : Bd 210 (nz L1) := bz1.mono (by decide)
  refine call_L_second (w_get (second_ok h1' bT1' bz1' z1 hr i2) ?_)
  rintro two s8 ⟨⟨t, u, h2⟩, x8⟩
  obtain ⟨rfl, hu, bt, bu⟩ := h2
  have h2 : Ta 400 (.tup [.int t, .int u]) t u := ⟨rfl, hu, bt, bu⟩
  have sT := x8.seq sT
  have sL := x8.seq sL
  have hr := x8.seq hr
  repeat walk_at "ri"
  rw [nz_eq]
  have zz := nz_ne T1
  have bzz := nz_bd bT1 (by decide)
  refine w_mul (h1.bp.fits (by decide)) (Bd.fits (x := nz T1) bzz (by decide)) ?_
  repeat walk_at "ri"
  refine w_mul (h1.bq.fits (by decide)) (Bd.fits (x := nz T1) bzz (by decide)) ?_
  repeat walk_at "ri"
  have Q1 := h1.pos
  refine call_amount (w_get (amount_ok (t := P * nz T1) (b := Q * nz T1) (Int.mul_ne_zero (by omega) zz) ((h1.bq.mul bzz).mono (by decide))) ?_)
  rintro _ _ ⟨rfl, rfl⟩
  repeat walk_at "ri"
  refine call_L_told (w_get (told_same Q1 zz (h1.bp.mono (by decide)) (h1.bq.mono (by decide)) (bzz.mono (by decide))) ?_)
  rintro _ _ ⟨rfl, rfl⟩
  rename_i s8
  have h1' : Ta 400 (.tup [.int P, .int Q]) P Q := h1.mono (by decide)
  repeat walk_at "ri"
  refine w_list rfl ?_
  repeat walk_at "ri"
  have y1 := Ext.app s8 [O.lst [.int P, .int Q]]
  have A1 := get_new s8 (O.lst [.int P, .int Q])
  generalize s8.length = m1 at *
  generalize s8 ++ [O.lst [.int P, .int Q]] = t1 at *
  refine w_list rfl ?_
  repeat walk_at "ri"
  have y2 := Ext.app t1 [O.lst [.int t, .int u]]
  have A2 := get_new t1 (O.lst [.int t, .int u])
  generalize t1.length = m2 at *
  generalize t1 ++ [O.lst [.int t, .int u]] = t2 at *
  have y3 := Ext.app t2 [O.lst [.int 0, .int 1]]
  have A3 := get_new t2 (O.lst [.int 0, .int 1])
  generalize t2.length = m3 at *
  generalize t2 ++ [O.lst [.int 0, .int 1]] = t3 at *
  have y4 := Ext.app t3 [O.lst [.ref m1, .ref m2, .ref m3]]
  have A4 := get_new t3 (O.lst [.ref m1, .ref m2, .ref m3])
  have S1 : lstOf (t3 ++ [O.lst [.ref m1, .ref m2, .ref m3]]) (.ref m1) = some [.int P, .int Q] := lst_at (((y2.trans y3).trans y4).get A1)
  have S2 : lstOf (t3 ++ [O.lst [.ref m1, .ref m2, .ref m3]]) (.ref m2) = some [.int t, .int u] := lst_at ((y3.trans y4).get A2)
  have S3 : lstOf (t3 ++ [O.lst [.ref m1, .ref m2, .ref m3]]) (.ref m3) = some [.int 0, .int 1] := lst_at (y4.get A3)
  have S4 : lstOf (t3 ++ [O.lst [.ref m1, .ref m2, .ref m3]]) (.ref t3.length) = some [.ref m1, .ref m2, .ref m3] := lst_at A4
  have yy := (((y1.trans y2).trans y3).trans y4)
  have sT := yy.seq sT
  have sL := yy.seq sL
  have hr := yy.seq hr
  clear yy y1 y2 y3 y4 A1 A2 A3 A4
  generalize t3.length = m4 at *
  generalize t3 ++ [O.lst [.ref m1, .ref m2, .ref m3]] = s9 at *
  have S4' : seqOf s9 (.ref m4) = some [.ref m1, .ref m2, .ref m3] := S4
  have pt1 : ∀ s, Pt s 1500 (.tup [.int P, .int Q]) P Q := fun s => (h1'.pt s).mono (by decide)
  have pt2 : ∀ s, Pt s 1500 (.tup [.int t, .int u]) t u := fun s => (h2.pt s).mono (by decide)
  have pl1 : Pt s9 1500 (.ref m1) P Q := ⟨S1, h1'.pos, h1'.bp.mono (by decide), h1'.bq.mono (by decide)⟩
  have pl2 : Pt s9 1500 (.ref m2) t u := ⟨S2, h2.pos, h2.bp.mono (by decide), h2.bq.mono (by decide)⟩
  have pl3 : Pt s9 1500 (.ref m3) 0 1 := ⟨S3, by decide, Bd.mono bd0 (by decide), Bd.mono bd1 (by decide)⟩
  refine call_L_operations (w_get (oper_ok (pt1 _) (pt2 _)) ?_)
  rintro _ s9 ⟨rfl, rfl⟩
  repeat walk_at "ri"
  refine call_L_operations (w_get (oper_ok (pt2 _) (pt1 _)) ?_)
  rintro _ s9 ⟨rfl, rfl⟩
  repeat walk_at "ri"
  refine call_L_operations (w_get (oper_ok (pt1 _) pl3) ?_)
  rintro _ s9 ⟨rfl, rfl⟩
  repeat walk_at "ri"
  refine call_L_refused (w_get (refused_a (r := []) rfl rfl) ?_)
  rintro _ s9 ⟨rfl, rfl⟩
  repeat walk_at "ri"
  have pz : ∀ s, Pt s 1500 (.tup [.int 0, .int 1]) 0 1 := fun s => ⟨rfl, by decide, Bd.mono bd0 (by decide), Bd.mono bd1 (by decide)⟩
  refine call_L_refused (w_get (refused_q (pz _) (pz _)) ?_)
  rintro _ s9 ⟨rfl, rfl⟩
  repeat walk_at "ri"
  refine call_L_operations (w_get (oper_ok pl1 (pt2 _)) ?_)
  rintro _ s9 ⟨rfl, rfl⟩
  repeat walk_at "ri"
  refine call_L_operations (w_get (oper_ok pl2 pl1) ?_)
  rintro _ s9 ⟨rfl, rfl⟩
  repeat walk_at "ri"
  have y1 := Ext.app s9 [O.lst [.int P, .int Q]]
  have A1 := get_new s9 (O.lst [.int P, .int Q])
  generalize s9.length = n1 at *
  generalize s9 ++ [O.lst [.int P, .int Q]] = t1 at *
  have y2 := Ext.app t1 [O.lst [.int t, .int u]]
  have A2 := get_new t1 (O.lst [.int t, .int u])
  generalize t1.length = n2 at *
  generalize t1 ++ [O.lst [.int t, .int u]] = t2 at *
  have y3 := Ext.app t2 [O.lst [.int 0, .int 1]]
  have A3 := get_new t2 (O.lst [.int 0, .int 1])
  generalize t2.length = n3 at *
  generalize t2 ++ [O.lst [.int 0, .int 1]] = t3 at *
  have y4 := Ext.app t3 [O.lst [.ref n1, .ref n2, .ref n3]]
  have A4 := get_new t3 (O.lst [.ref n1, .ref n2, .ref n3])
  have yy := (((y1.trans y2).trans y3).trans y4)
  have N1 : lstOf (t3 ++ [O.lst [.ref n1, .ref n2, .ref n3]]) (.ref n1) = some [.int P, .int Q] := lst_at (((y2.trans y3).trans y4).get A1)
  have N2 : lstOf (t3 ++ [O.lst [.ref n1, .ref n2, .ref n3]]) (.ref n2) = some [.int t, .int u] := lst_at ((y3.trans y4).get A2)
  have N3 : lstOf (t3 ++ [O.lst [.ref n1, .ref n2, .ref n3]]) (.ref n3) = some [.int 0, .int 1] := lst_at (y4.get A3)
  have N4 : lstOf (t3 ++ [O.lst [.ref n1, .ref n2, .ref n3]]) (.ref t3.length) = some [.ref n1, .ref n2, .ref n3] := lst_at A4
  have S1 := yy.lst S1
  have S2 := yy.lst S2
  have S3 := yy.lst S3
  have S4 := yy.lst S4
  have sT := yy.seq sT
  have sL := yy.seq sL
  have hr := yy.seq hr
  generalize t3.length = n4 at *
  generalize t3 ++ [O.lst [.ref n1, .ref n2, .ref n3]] = s10 at *
  have d2 : ∀ (m : Nat) (a b : Int), lstOf s10 (.ref m) = some [.int a, .int b] → dat s10 63 (.ref m) = some (.list [.int a, .int b]) := fun m a b h => dat_lst h rfl
  have d3 : ∀ (m m1 m2 m3 : Nat), lstOf s10 (.ref m1) = some [.int P, .int Q] → lstOf s10 (.ref m2) = some [.int t, .int u] → lstOf s10 (.ref m3) = some [.int 0, .int 1] → lstOf s10 (.ref m) = some [.ref m1, .ref m2, .ref m3] →
      dat s10 64 (.ref m) = some (.list [.list [.int P, .int Q], .list [.int t, .int u], .list [.int 0, .int 1]]) := fun m m1 m2 m3 a b c d => dat_lst d (by
    rw [List.map_cons, List.map_cons, List.map_cons, List.map_nil, d2 _ _ _ a, d2 _ _ _ b, d2 _ _ _ c]
    rfl)
  refine w_cmpB (eq_self (d3 _ _ _ _ S1 S2 S3 S4) (d3 _ _ _ _ N1 N2 N3 N4) rfl ?_) ?_
  · simp [PyData.eqv, PyData.eqvAll]
  repeat walk_at "ri"
  refine call_L_values (w_get (values_ok h1' h2 (bT1.mono (by decide)) (bL1.mono (by decide)) hr i4) ?_)
  rintro _ s11 ⟨m, lv, rfl, x11, lvm, gv⟩
  repeat walk_at "ri"
  refine call_L_judged (w_get (judged_ok lvm gv) ?_)
  rintro _ _ ⟨rfl, rfl⟩
  rename_i s11
  have sT := x11.seq sT
  have sL := x11.seq sL
  have hr := x11.seq hr
  repeat walk_at "ri"
  have c40 : Bd 140 ((10 : Int) ^ (40 : Int).toNat) ∧ 0 < (10 : Int) ^ (40 : Int).toNat := ⟨by unfold Bd; decide, by decide⟩
  have c45 : Bd 190 ((10 : Int) ^ (45 : Int).toNat) ∧ 0 < (10 : Int) ^ (45 : Int).toNat := ⟨by unfold Bd; decide, by decide⟩
  have c50 : Bd 190 ((10 : Int) ^ (50 : Int).toNat) ∧ 0 < (10 : Int) ^ (50 : Int).toNat := ⟨by unfold Bd; decide, by decide⟩
  have c55 : Bd 190 ((10 : Int) ^ (55 : Int).toNat) ∧ 0 < (10 : Int) ^ (55 : Int).toNat := ⟨by unfold Bd; decide, by decide⟩
  refine w_pow (by decide) ?_
  generalize g40 : (10 : Int) ^ (40 : Int).toNat = e40 at *
  refine w_mul (bT0.fits (by decide)) (c40.1.fits (by decide)) ?_
  repeat walk_at "ri"
  refine w_pow (by decide) ?_
  rw [g40]
  repeat walk_at "ri"
  refine w_pow (by decide) ?_
  generalize (10 : Int) ^ (45 : Int).toNat = e45 at *
  repeat walk_at "ri"
  refine w_pow (by decide) ?_
  generalize (10 : Int) ^ (50 : Int).toNat = e50 at *
  repeat walk_at "ri"
  refine w_pow (by decide) ?_
  generalize (10 : Int) ^ (55 : Int).toNat = e55 at *
  repeat walk_at "ri"
  have w1 := Ext.app s11 [O.lst [.int e40, .int e45, .int e50, .int e55]]
  have sE : seqOf (s11 ++ [O.lst [.int e40, .int e45, .int e50, .int e55]]) (.ref s11.length) = some [.int e40, .int e45, .int e50, .int e55] := lst_new s11 _
  have sL := w1.seq sL
  have hr := w1.seq hr
  generalize s11.length = n5 at *
  generalize s11 ++ [O.lst [.int e40, .int e45, .int e50, .int e55]] = s12 at *
  repeat walk_at "ri"
  refine w_mod (by decide) ?_
  have j7 : In 4 (a7.fmod 4) := In.mod (by decide)
  refine pick (P := fun d => ∃ i, d = .int i ∧ Bd 190 i ∧ 0 < i) sE (by
    simp only [List.forall_mem_cons, List.not_mem_nil, false_implies, implies_true, and_true]
    exact ⟨⟨_, rfl, c40.1.mono (by decide), c40.2⟩, ⟨_, rfl, c45⟩, ⟨_, rfl, c50⟩, ⟨_, rfl, c55⟩⟩) j7.1 j7.2 ?_
  rintro _ ⟨e, rfl, be, pe⟩
  repeat walk_at "ri"
  refine w_mul (bL1.fits (by decide)) (bL1.fits (by decide)) ?_
  repeat walk_at "ri"
  refine w_fdiv (by decide) (Bd.fits (n := 2) (by unfold Bd; decide) (by decide)) ?_
  repeat walk_at "ri"
  have f6 : 0 ≤ a6.fdiv 2 ∧ a6.fdiv 2 ≤ 60 := by
    have g0 : 0 ≤ a6.fdiv 2 := Int.fdiv_nonneg i6.1 (by decide)
    have g1 : a6.fdiv 2 ≤ a6 := by
      rw [Int.fdiv_eq_ediv_of_nonneg _ (by decide)]
      exact Int.ediv_le_self _ i6.1
    have := i6.2
    omega
  have bf6 : Bd 10 (a6.fdiv 2) := by unfold Bd; omega
  have sq : 0 ≤ L1 * L1 := by
    rcases Int.le_total 0 L1 with z | z
    · exact Int.mul_nonneg z z
    · exact Int.mul_nonneg_of_nonpos_of_nonpos z z
  have bLow : Bd 402 (e + L1 * L1 + a6.fdiv 2) := Bd.add (Bd.add (be.mono (by decide)) ((bL1.mul bL1).mono (by decide))) (bf6.mono (by decide))
  have bTop : Bd 402 (T0 * e40 + 1 + a6) := Bd.add (Bd.add ((bT0.mul c40.1).mono (by decide)) (Bd.mono bd1 (by decide))) ((i6.bd (n := 6) (by decide)).mono (by decide))
  have nLow : e + L1 * L1 + a6.fdiv 2 ≠ 0 := by omega
  refine call_L_passed_again (w_get (passed_ok h1' h2 (bTop.mono (by decide)) (bLow.mono (by decide)) nLow) ?_)
  rintro _ s13 rfl
  repeat walk_at "ri"
  refine call_L_operations (w_get (oper_ok (pt1 _) (pt2 _)) ?_)
  rintro _ _ ⟨rfl, rfl⟩
  rfl
theorem law_keeps (ns : List Int) (hl : ns.length ≤ 63) (hb : ∀ i ∈ ns, Builtin.Int.intBits i ≤ 1048576) : ∃ s, runD tab 12 d_law [.ref 0] [.ro (ns.map D.int)] = .ok (.bl true) s := by
  obtain ⟨v, s, e, rfl⟩ := wp_out (law_ok (k := 6) (s := [.ro (ns.map D.int)]) (n := 0) (ns := ns) rfl)
  exact ⟨s, e⟩
end RK00
set_option maxRecDepth 100000
set_option maxHeartbeats 0
namespace RK00
open PySem L2 PyProof.Rows RI
def exK (K : PySem.W.Frag) : Bool := glbB glb K && tab.all fun e => nsB K e.name (some (.ref (He.ga K e.name)))
theorem exK_ok (K : PySem.W.Frag) (h : exK K = true) : glbB glb K = true ∧ ∀ e ∈ tab, nsB K e.name (some (.ref (He.ga K e.name))) = true := by
  obtain ⟨a, b⟩ := He.ba h
  exact ⟨a, fun e he => List.all_eq_true.mp b e he⟩
abbrev R : PySem.W.OpenRow := PySem.W.OpenLaw.row PySem.Challenge.rw_takenforms_k00_amounts
abbrev hk : PySem.W.Hook := hookB 4 [] fns exK
def ob (s : PySem.W.SharedT) : AlB := obsB 4 [] fns exK (HandSHeadRun.getT s)
theorem ob_eq (s : PySem.W.SharedT) : ob s = hk.obs s.abs := obsB_eq (HandSHeadRun.getT_eq s)
def loose : List Str := ["gcd", "FormError", "NoAmount", "NotPlain", "is_whole", "amount", "is_amount", "plus", "minus", "times", "over", "compare", "_law_whole", "_law_cell", "_law_row", "_law_number", "_law_gcd", "_law_amount", "_law_is_amount", "_law_told", "_law_refused", "_law_refused_by_base", "_law_made", "_law_operations", "_law_second", "_law_values", "_law_judged", "_law_passed_again"]
theorem run (w : World) : HandSHeadRun.RunEqI R (PySem.W.view R.prog [31]) hk ob 3000 loose w := by
  unfold HandSHeadRun.RunEqI
  kernel_rfl
end RK00
set_option maxRecDepth 100000
set_option maxHeartbeats 0
namespace RK00
open PySem L2 PyProof.Rows RI
theorem walk : PySem.W.WalkO (PySem.W.view R.prog [31]) loose (PySem.W.XL (PySem.W.view R.prog [31]) []) hk.says R.toRowW (HandSHeadRun.topDef R.prog 31) [] (fun f vs => PySem.call f vs) :=
  law_walk (l := PySem.Challenge.rw_takenforms_k00_amounts) (n := 63) (k := 12) (x := "_law_script") (d := d_law) (T := tab) (G := glb) (z := e_law) rfl (by decide) (by kernel_rfl) ⟨rfl, by decide, by decide⟩ uniqTab (by simp [tab]) exK_ok fitsAll.get rfl (by kernel_rfl) rfl (by simp [fns]) f_law
    (fun K f fd F s u => F.bindsA (ps := ["_law_script"]) (fun _ _ _ _ _ _ us hl => match us, hl with | [_], _ => rfl) s [u] rfl) law_keeps
end RK00
open PySem PySem.W PySem.Calls PyProof.Rows
theorem PySem.Challenge.cw_takenforms_k00_amounts_holds : PySem.Challenge.rw_takenforms_k00_amounts.Holds := by
  w_on; o_law
  refine HandSHeadRun.head_imp (r := OpenLaw.row PySem.Challenge.rw_takenforms_k00_amounts) (q := view RK00.R.prog [31]) (H := RK00.hk) (ob := RK00.ob) (M := 3000) (loose := RK00.loose) (d := HandSHeadRun.topDef RK00.R.prog 31) (kwd := []) RK00.ob_eq RK00.run
    (by kernel_rfl) (by kernel_rfl) (by kernel_rfl) (by rfl) (by first | assumption | decide +kernel) (by decide +kernel) ⟨rfl, rfl, rfl, rfl, rfl, by decide +kernel⟩ ?hw RK00.walk
  case hw => w_witness2
