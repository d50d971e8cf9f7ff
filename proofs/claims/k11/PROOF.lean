import PyProof.Rows.All
import Wide.All
import OpenK.AllK
import Wide.FinOn
import HandS.ForMost
import HandS.ForExc
import HandS.Small
import HandS.WordsExc
import HandS.TupMul
import PyProof.Lay0
import HandS.DictTup
import HandS.Lambda
import HandS.Iter
import HandS.Wide
import HandS.TupAny
import HandS.SortInts
import HandS.Style
import HandS.Deep
import HandS.IsInst
import HandS.Text
import HandS.Dict
import HandS.SortKw
import KE.KMinKey
import HandS.TryMany
import HandS.ExcIs
import HandS.Conv
import HandS.Zip
import HandS.ListItems
import HandS.EndBits
import HandS.EndTab
import PySem.Challenge.RW_numbergaps_k11_whole_a_plan_settles
set_option linter.all false
set_option autoImplicit false
set_option Elab.async false
/-! OIa: the ownership interpreter: values, store, my own syntax, its run. Plain Lean; nothing of the machine. -/
namespace OI
open PySem (Str PyData)

/-- data by value: frozen lists and dicts among them; loc: a shared object of the store -/
inductive D where
  | non | bl (b : Bool) | int (i : Int) | str (x : Str)
  | tup (xs : List D) | lst (xs : List D) | dic (t : Bool) (kvs : List (D × D))
  | scr (ns : List Int) | loc (n : Nat) | exn (c : String) | lam (f : String) (cap : List D)
  deriving Inhabited

mutual
def D.beq : D → D → Bool
  | .non, .non => true
  | .bl a, .bl b => a == b
  | .int a, .int b => a == b
  | .str a, .str b => a == b
  | .tup a, .tup b => D.beqs a b
  | .lst a, .lst b => D.beqs a b
  | .dic t a, .dic u b => t == u && D.beqk a b
  | .scr a, .scr b => a == b
  | .loc a, .loc b => a == b
  | .exn a, .exn b => a == b
  | .lam a c, .lam b d => a == b && D.beqs c d
  | _, _ => false
def D.beqs : List D → List D → Bool
  | [], [] => true
  | x :: xs, y :: ys => D.beq x y && D.beqs xs ys
  | _, _ => false
def D.beqk : List (D × D) → List (D × D) → Bool
  | [], [] => true
  | (a, b) :: xs, (c, d) :: ys => D.beq a c && D.beq b d && D.beqk xs ys
  | _, _ => false
end
mutual
theorem D.beq_iff : ∀ a b : D, D.beq a b = true ↔ a = b
  | .non, b => by cases b <;> simp [D.beq]
  | .bl _, b => by cases b <;> simp [D.beq]
  | .int _, b => by cases b <;> simp [D.beq]
  | .str _, b => by cases b <;> simp [D.beq]
  | .tup xs, b => by
    cases b <;> simp [D.beq]
    exact D.beqs_iff xs _
  | .lst xs, b => by
    cases b <;> simp [D.beq]
    exact D.beqs_iff xs _
  | .dic t xs, b => by
    cases b <;> simp [D.beq]
    intro _
    exact D.beqk_iff xs _
  | .scr _, b => by cases b <;> simp [D.beq]
  | .loc _, b => by cases b <;> simp [D.beq]
  | .exn _, b => by cases b <;> simp [D.beq]
  | .lam _ xs, b => by
    cases b <;> simp [D.beq]
    intro _
    exact D.beqs_iff xs _
theorem D.beqs_iff : ∀ a b : List D, D.beqs a b = true ↔ a = b
  | [], b => by cases b <;> simp [D.beqs]
  | x :: xs, b => by
    cases b with
    | nil => simp [D.beqs]
    | cons y ys => simp [D.beqs, D.beq_iff x y, D.beqs_iff xs ys]
theorem D.beqk_iff : ∀ a b : List (D × D), D.beqk a b = true ↔ a = b
  | [], b => by cases b <;> simp [D.beqk]
  | (x, y) :: xs, b => by
    cases b with
    | nil => simp [D.beqk]
    | cons z zs =>
      obtain ⟨u, v⟩ := z
      simp [D.beqk, D.beq_iff x u, D.beq_iff y v, D.beqk_iff xs zs]
end
instance : DecidableEq D := fun a b => if h : D.beq a b = true then .isTrue ((D.beq_iff a b).1 h) else .isFalse fun e => h ((D.beq_iff a b).2 e)

/-- what a slot, a field or a result holds: data, or a container of its own -/
inductive M where
  | val (d : D) | ol (xs : List D) | od (t : Bool) (kvs : List (D × D))
  deriving DecidableEq, Inhabited
def M.frz : M → D
  | .val d => d
  | .ol xs => .lst xs
  | .od t kvs => .dic t kvs
def M.isVal : M → Bool
  | .val _ => true
  | _ => false
inductive SObj where
  | ins (c : String) (fs : List (String × M)) | lst (xs : List D) | dic (t : Bool) (kvs : List (D × D))
  deriving DecidableEq, Inhabited
structure Ent where
  o : SObj
  v : Nat
  deriving DecidableEq, Inhabited
abbrev Store := List Ent
abbrev Env := List (Option M)
/-- whose a container is -/
inductive Pl where
  | slot (i : Nat) | fld (n : Nat) (f : String) | obj (n : Nat) | tmp | oth
  deriving DecidableEq, Inhabited
/-- where a walk's source stands, if it may change: an object of the store, a slot -/
inductive Src where
  | ent (n : Nat) | slot (i : Nat)
  deriving DecidableEq, Inhabited
def Pl.walk : Pl → List Src
  | .fld n _ => [.ent n]
  | .obj n => [.ent n]
  | .slot i => [.slot i]
  | _ => []
def Pl.src : Pl → Option Nat
  | .fld n _ => some n
  | .obj n => some n
  | _ => none

inductive Res (α : Type) where
  | ok (a : α) (e : Env) (s : Store)
  | err (c : String) (e : Env) (s : Store)
  | bad
  deriving Inhabited
def Res.bind {α β : Type} (r : Res α) (f : α → Env → Store → Res β) : Res β :=
  match r with
  | .ok a e s => f a e s
  | .err c e s => .err c e s
  | .bad => .bad
inductive RR where
  | ok (m : M) (s : Store)
  | err (c : String) (s : Store)
  | bad
  deriving Inhabited
abbrev Runs := String → List D → Store → RR

/-! ### the syntax -/
inductive BOp where
  | add | sub | mul | fdiv | mod | pow
  deriving DecidableEq, Inhabited
inductive COp where
  | eq | ne | lt | le | gt | ge | isin | nin
  deriving DecidableEq, Inhabited
inductive Ty where
  | tup | lst | str | bl | int | own (c : String) | valueError
  deriving DecidableEq, Inhabited
/-- a target: a name, or names of a tuple -/
inductive Tg where
  | one (i : Nat) | many (is : List Nat)
  deriving DecidableEq, Inhabited
mutual
inductive IE where
  | var (i : Nat)
  | cst (d : D)
  | glob (x : String) (d : D)
  | bin (op : BOp) (a b : IE)
  | neg (a : IE)
  | cmp (op : COp) (a b : IE)
  | chain (op op2 : COp) (a b c : IE)
  | isN (neg : Bool) (a : IE)
  | isB (neg : Bool) (a : IE) (b : Bool)
  | both (a b : IE)
  | either (a b : IE)
  | nott (a : IE)
  | ife (c a b : IE)
  | tup (es : IEs)
  | lst (es : IEs)
  | dct (t : Bool) (ps : IPs)
  | idx (a b : IE)
  | slc (a : IE) (lo hi : IO)
  | attr (a : IE) (f : String)
  | call (f : String) (es : IEs)
  | new (c : String) (es : IEs)
  | meth (o : IE) (c m : String) (es : IEs)
  | bi1 (f : String) (a : IE)
  | bi2 (f : String) (a b : IE)
  | bi3 (f : String) (a b c : IE)
  | bm1 (m : String) (o a : IE)
  | bm2 (m : String) (o a b : IE)
  | isi (a : IE) (one : Bool) (ts : List Ty)
  | lrange (a b : IE)
  | lc (elt : IE) (tg : Tg) (it : It) (c : IO) (own : List Nat)
  | share (a : IE)
  | lam (f : String) (caps : IEs)
  | app (a : IE)
  | lcall (f g : String) (caps : List Nat)
  | chain3 (op op2 op3 : COp) (a b c d : IE)
  | bad
inductive IEs where
  | nil
  | cons (a : IE) (r : IEs)
inductive IPs where
  | nil
  | cons (k v : IE) (r : IPs)
inductive IO where
  | no
  | yes (a : IE)
inductive It where
  | of (e : IE)
  | rng1 (a : IE)
  | rng2 (a b : IE)
  | rng3 (a b c : IE)
  | zip (a b : IE)
end
mutual
inductive IS where
  | asg (t : Tg) (e : IE)
  | pop (t : Nat) (o : IE)
  | setA (o : IE) (f : String) (e : IE)
  | setI (o i e : IE)
  | ret (e : IE)
  | ifs (c : IE) (a b : ISs)
  | expr (e : IE)
  | mut0 (m : String) (o : IE)
  | mut1 (m : String) (o a : IE)
  | fors (tg : Tg) (it : It) (b : ISs)
  | whil (c : IE) (b : ISs)
  | rais (c : String)
  | tryA (b : ISs) (ks : List String) (c : String) (i : Nat) (h : ISs)
  | tryM (b : ISs) (ks : List String) (hs : IHs)
  | pass
  | bad
inductive ISs where
  | nil
  | cons (a : IS) (r : ISs)
inductive IHs where
  | nil
  | cons (c : String) (b : ISs) (r : IHs)
end
structure Fn where
  np : Nat
  ns : Nat
  body : ISs
abbrev Prog := List (String × Fn)

/-! ### plain operations -/
def LIM : Nat := 16777216
mutual
def toPy : D → PyData
  | .non => .none
  | .bl b => .bool b
  | .int i => .int i
  | .str x => .str x
  | .tup xs => .tuple (toPys xs)
  | .lst xs => .list (toPys xs)
  | .scr ns => .list (ns.map .int)
  | .dic _ _ => .dict []
  | .loc _ => .dict []
  | .exn _ => .dict []
  | .lam _ _ => .dict []
def toPys : List D → List PyData
  | [] => []
  | x :: xs => toPy x :: toPys xs
end
def D.lay (d : D) : Bool := (toPy d).canLay0
def D.deep (d : D) : Nat := (toPy d).depth
def eqv (d e : D) : Bool := PyData.eqv (toPy d) (toPy e)
def cmpOk (d e : D) : Bool := d.lay && e.lay && decide (min d.deep e.deep ≤ 64)

/-- the items of a list (frozen, own, the script) -/
def M.lst? : M → Option (List D)
  | .val (.lst xs) => some xs
  | .val (.scr ns) => some (ns.map .int)
  | .ol xs => some xs
  | _ => none
/-- .. without the script -/
def M.lst1? : M → Option (List D)
  | .val (.lst xs) => some xs
  | .ol xs => some xs
  | _ => none
def M.dic? : M → Option (Bool × List (D × D))
  | .val (.dic t kvs) => some (t, kvs)
  | .od t kvs => some (t, kvs)
  | _ => none
/-- list or tuple -/
def M.seq? : M → Option (List D)
  | .val (.tup xs) => some xs
  | m => m.lst?

/-- keys of a dict of kind false: ints and texts; of kind true: tuples (nested) of ints -/
def D.flatKey : D → Bool
  | .int _ => true
  | .str _ => true
  | _ => false
def D.isIn : D → Bool
  | .int _ => true
  | _ => false
def D.tupIn : D → Bool
  | .tup xs => xs.all D.isIn
  | _ => false
def D.tupKey : D → Bool
  | .tup xs => xs.all D.tupIn
  | _ => false
def keyOk (t : Bool) (k : D) : Bool := if t then k.tupKey else k.flatKey
def dget (kvs : List (D × D)) (k : D) : Option D := (kvs.find? fun p => decide (p.1 = k)).map (·.2)
def dput (kvs : List (D × D)) (k v : D) : List (D × D) :=
  if (kvs.any fun p => decide (p.1 = k)) = true then kvs.map (fun p => if p.1 = k then (p.1, v) else p) else kvs ++ [(k, v)]
def dmerge (kvs more : List (D × D)) : List (D × D) := more.foldl (fun acc p => dput acc p.1 p.2) kvs

def strAt (x : Str) (i : Int) : Option D := (L2.atI x.cps.toList i).map fun c => .str ⟨#[c]⟩
def signs (x : Str) : List D := x.cps.toList.map fun c => .str ⟨#[c]⟩
def cutD (xs : List D) (lo hi : Option Int) : List D := (xs.drop (HT.sIx xs.length 0 lo)).take (HT.sIx xs.length xs.length hi - HT.sIx xs.length 0 lo)

def addM (a b : M) : Option M :=
  match a, b with
  | .val (.int i), .val (.int j) => some (.val (.int (i + j)))
  | .val (.str x), .val (.str y) => if x.length + y.length ≤ LIM then some (.val (.str (x ++ y))) else none
  | .val (.tup xs), .val (.tup ys) => if xs.length + ys.length ≤ LIM then some (.val (.tup (xs ++ ys))) else none
  | a, b => match a.lst1?, b.lst1? with
    | some xs, some ys => if xs.length + ys.length ≤ LIM then some (.ol (xs ++ ys)) else none
    | _, _ => none
def mulM (a b : M) : Option M :=
  match a, b with
  | .val (.int i), .val (.int j) => if (-(2 ^ 64) < i ∧ i < 2 ^ 64) ∨ (-(2 ^ 64) < j ∧ j < 2 ^ 64) then some (.val (.int (i * j))) else none
  | .val (.tup xs), .val (.int k) => if 2 ≤ k ∧ k ≤ 1000 ∧ 0 < xs.length ∧ xs.length ≤ 1000 then some (.val (.tup (List.replicate k.toNat xs).flatten)) else none
  | a, .val (.int k) => match a.lst1? with
    | some xs => if 0 ≤ k ∧ k < 2 ^ 62 ∧ xs.length * k.toNat ≤ LIM then some (.ol (List.replicate k.toNat xs).flatten) else none
    | _ => none
  | _, _ => none
def intM (f : Int → Int → Option Int) (a b : M) : Option M :=
  match a, b with
  | .val (.int i), .val (.int j) => (f i j).map fun k => .val (.int k)
  | _, _ => none
def bin (op : BOp) : M → M → Option M :=
  match op with
  | .add => addM
  | .mul => mulM
  | .sub => intM fun i j => some (i - j)
  | .fdiv => intM fun i j => if 0 < j ∧ j.natAbs.log2 < 9000 then some (i / j) else none
  | .mod => intM fun i j => if 0 < j then some (i % j) else none
  | .pow => intM fun i j => if 0 ≤ j ∧ j ≤ 1000000 ∧ i.natAbs < 2 ^ 64 then some (i ^ j.toNat) else none

def cmpI (op : COp) (i j : Int) : Option Bool :=
  match op with
  | .lt => some (decide (i < j))
  | .le => some (decide (i ≤ j))
  | .gt => some (decide (j < i))
  | .ge => some (decide (j ≤ i))
  | _ => none
def D.flat : D → Bool
  | .non => true
  | .bl _ => true
  | .int _ => true
  | .str _ => true
  | _ => false
def isIn (a b : M) : Option Bool :=
  match a with
  | .val d => match b with
    | .val (.str y) => match d with
      | .str x => if x.length = 1 then some (decide (x.cps.getD 0 0 ∈ y.cps.toList)) else none
      | _ => none
    | b => match b.dic? with
      | some (t, kvs) => if keyOk t d then some (dget kvs d).isSome else none
      | none => match b.seq? with
        | some ys => if d.flat && ys.all D.flat then some (ys.any fun y => eqv y d)
          else if b.lst?.isSome && d.lay && (D.lst ys).lay && decide (d.deep ≤ 60) then some (ys.any fun y => eqv y d) else none
        | none => none
  | _ => none
def eqB (d e : D) : Option Bool :=
  match d, e with
  | .str x, .str y => some (decide (x = y))
  | _, _ => if cmpOk d e then some (eqv d e) else none
def cmp (op : COp) (a b : M) : Option Bool :=
  match op with
  | .eq => eqB a.frz b.frz
  | .ne => (eqB a.frz b.frz).map fun c => !c
  | .isin => isIn a b
  | .nin => (isIn a b).map fun c => !c
  | _ => match a, b with
    | .val (.int i), .val (.int j) => cmpI op i j
    | _, _ => none

def index (a b : M) : Option D :=
  match a, b with
  | .val (.str x), .val (.int i) => if x.length ≤ LIM then strAt x i else none
  | a, .val k => match a.seq? with
    | some xs => match k with
      | .int i => L2.atI xs i
      | _ => none
    | none => match a.dic? with
      | some (t, kvs) => if keyOk t k then dget kvs k else none
      | none => none
  | _, _ => none
def slice (a : M) (lo hi : Option Int) : Option M :=
  match a with
  | .val (.str x) => if x.length ≤ LIM then some (.val (.str (L2.cutS x lo hi))) else none
  | .val (.tup xs) => some (.val (.tup (cutD xs lo hi)))
  | a => match a.lst1? with
    | some xs => some (.ol (cutD xs lo hi))
    | none => none

def ints? : List D → Option (List Int)
  | [] => some []
  | .int i :: r => (ints? r).map (i :: ·)
  | _ :: _ => none
def strs? : List D → Option (List Str)
  | [] => some []
  | .str i :: r => (strs? r).map (i :: ·)
  | _ :: _ => none
def maxI : List Int → Int
  | [] => 0
  | [a] => a
  | a :: r => max a (maxI r)
def minI : List Int → Int
  | [] => 0
  | [a] => a
  | a :: r => min a (minI r)
def insI (a : Int) : List Int → List Int
  | [] => [a]
  | b :: r => if a ≤ b then a :: b :: r else b :: insI a r
def sortI : List Int → List Int
  | [] => []
  | a :: r => insI a (sortI r)

def bi1 (f : String) (a : M) : Option M :=
  match f with
  | "len" => match a with
    | .val (.str x) => if x.length ≤ LIM then some (.val (.int x.length)) else none
    | a => match a.seq? with
      | some xs => some (.val (.int xs.length))
      | none => none
  | "sum" => match a.seq?.bind ints? with
    | some ns => some (.val (.int ns.sum))
    | none => none
  | "max" => match a.lst?.bind ints? with
    | some (n :: ns) => some (.val (.int (maxI (n :: ns))))
    | _ => none
  | "min" => match a.lst?.bind ints? with
    | some (n :: ns) => some (.val (.int (minI (n :: ns))))
    | _ => none
  | "sorted" => match a.lst?.bind ints? with
    | some ns => some (.ol ((sortI ns).map .int))
    | none => none
  | "list" => match a.seq? with
    | some xs => some (.ol xs)
    | none => none
  | "tuple" => match a.seq? with
    | some xs => some (.val (.tup xs))
    | none => none
  | "dict" => match a.dic? with
    | some (false, kvs) => some (.od false kvs)
    | _ => none
  | "int" => match a with
    | .val (.int i) => some (.val (.int i))
    | .val (.bl b) => some (.val (.int (if b then 1 else 0)))
    | .val (.str x) => if x.length ≤ 640 then (PySem.intText? x).map fun i => .val (.int i) else none
    | _ => none
  | "str" => match a with
    | .val (.int i) => if i.natAbs.log2 < 1920 then some (.val (.str (toString i))) else none
    | _ => none
  | "lenset" => match a.lst?.bind ints? with
    | some ns => if ns.length ≤ 4000 ∧ ns.Nodup then some (.val (.int ns.length)) else none
    | none => none
  | _ => none
def bi2 (f : String) (a b : M) : Option M :=
  match f with
  | "max" => match a, b with
    | .val (.int i), .val (.int j) => some (.val (.int (max i j)))
    | _, _ => none
  | "min" => match a, b with
    | .val (.int i), .val (.int j) => some (.val (.int (min i j)))
    | _, _ => none
  | "maxd" => match a.lst?.bind ints?, b with
    | some [], .val (.int j) => some (.val (.int j))
    | some (n :: ns), .val (.int _) => some (.val (.int (maxI (n :: ns))))
    | _, _ => none
  | _ => none
def zipD (xs ys zs : List D) : List D := (xs.zip (ys.zip zs)).map fun p => .tup [p.1, p.2.1, p.2.2]
def bi3 (f : String) (a b c : M) : Option M :=
  match f with
  | "max" => match a, b, c with
    | .val (.int i), .val (.int j), .val (.int k) => some (.val (.int (max (max i j) k)))
    | _, _, _ => none
  | "lzip" => match a.lst?, b.lst?, c.lst? with
    | some xs, some ys, some zs => if ys.length = xs.length ∧ zs.length = xs.length ∧ xs.length ≤ LIM then some (.ol (zipD xs ys zs)) else none
    | _, _, _ => none
  | _ => none
def findIx (d : D) : List D → Nat → Option Nat
  | [], _ => none
  | y :: r, i => if eqv y d then some i else findIx d r (i + 1)
def bm1 (m : String) (o a : M) : Option M :=
  match m with
  | "index" => match o.lst?, a with
    | some ys, .val d => if d.flat && ys.all D.flat then (findIx d ys 0).map fun i => .val (.int i) else none
    | _, _ => none
  | "count" => match o.lst?, a with
    | some ys, .val (.bl b) => if ys.all (fun y => match y with | .bl _ => true | _ => false) then some (.val (.int (ys.countP fun y => decide (y = .bl b)))) else none
    | _, _ => none
  | "join" => match o, a.lst?.bind strs? with
    | .val (.str x), some ys => if (ys.map (·.length)).sum + ys.length * x.length ≤ 16777216 then some (.val (.str (PySem.Txt.join x ys))) else none
    | _, _ => none
  | "split" => match o, a with
    | .val (.str x), .val (.str y) => if y.length ≠ 0 ∧ x.length + 2 ≤ LIM then some (.ol ((PySem.Txt.split x y).map .str)) else none
    | _, _ => none
  | _ => none
def getM (o a b : M) : Option M :=
  match o.dic? with
  | some (t, kvs) => match a, b with
    | .val k, .val d => if keyOk t k then some (.val ((dget kvs k).getD d)) else none
    | _, _ => none
  | _ => none
def bm2 (m : String) (o a b : M) : Option M :=
  match m with
  | "get" => getM o a b
  | _ => none

/-! ### the run -/
def same (src : Option Nat) (s s' : Store) : Bool :=
  match src with
  | none => true
  | some n => decide (s[n]? = s'[n]?)
/-- the value of what stands: a container of a slot is frozen; one of a field is no value -/
def vl (m : M) (p : Pl) (e : Env) (s : Store) : Res M :=
  match m with
  | .val d => .ok (.val d) e s
  | m => match p with
    | .slot i => .ok (.val m.frz) (e.set i (some (.val m.frz))) s
    | .tmp => .ok m e s
    | _ => .bad
/-- what stands, to be read: the content, and the object of the store that it belongs to -/
def bw (m : M) (p : Pl) (s : Store) : M × Option Nat :=
  match m with
  | .val (.loc n) => match s[n]? with
    | some ⟨.lst xs, _⟩ => (.ol xs, some n)
    | some ⟨.dic t kvs, _⟩ => (.od t kvs, some n)
    | _ => (m, none)
  | .val d => (.val d, none)
  | m => (m, p.src)
def fldGet (fs : List (String × M)) (f : String) : Option M := (fs.find? fun p => p.1 == f).map (·.2)
def fldPut : List (String × M) → String → M → List (String × M)
  | [], k, v => [(k, v)]
  | (a, b) :: r, k, v => if a == k then (a, v) :: r else (a, b) :: fldPut r k v
/-- names stored from a value -/
def setNames : List Nat → List D → Env → Option Env
  | [], [], e => some e
  | i :: is, d :: ds, e => if i < e.length then setNames is ds (e.set i (some (.val d))) else none
  | _, _, _ => none
def store (t : Tg) (m : M) (e : Env) : Option Env :=
  match t with
  | .one i => if i < e.length then some (e.set i (some m)) else none
  | .many is => match m with
    | .val (.tup ds) => setNames is ds e
    | _ => none
def wipe (e : Env) : List Nat → Env
  | [] => e
  | i :: is => (wipe e is).set i none
def wipeOk (e : Env) (own : List Nat) : Bool := own.all fun i => match e[i]? with
  | some none => true
  | some (some (.val _)) => true
  | _ => false
def back (e0 e : Env) : List Nat → Env
  | [] => e
  | i :: is => (back e0 e is).set i (e0.getD i none)
def M.flat : M → Bool
  | .val .non => true
  | .val (.bl _) => true
  | .val (.int _) => true
  | .val (.str _) => true
  | _ => false
/-- a statement's expression is done: where nothing was changed and its value is flat the slots' own containers are own again -/
def keep (m : M) (e0 e1 : Env) (s0 s1 : Store) : Env := if m.flat = true ∧ s1 = s0 then e0 else e1
def still (ws : List Src) (s s' : Store) : Bool := ws.all fun w => match w with
  | .ent n => decide (s[n]? = s'[n]?)
  | .slot _ => true
/-- what stands, to be walked, and where it stands -/
def wk (m : M) (p : Pl) (s : Store) : M × List Src :=
  match m with
  | .val (.loc n) => match s[n]? with
    | some ⟨.lst xs, _⟩ => (.ol xs, [.ent n])
    | some ⟨.dic t kvs, _⟩ => (.od t kvs, [.ent n])
    | _ => (m, [])
  | .val d => (.val d, [])
  | m => (m, p.walk)
/-- what became of a statement -/
inductive Flow where
  | nx | ret (m : M)
  deriving Inhabited, DecidableEq
def forL (src : List Src) (s0 : Store) (tg : Tg) (body : Env → Store → Res Flow) : List D → Env → Store → Res Flow
  | [], e, s => if still src s0 s then .ok .nx e s else .bad
  | x :: xs, e, s => if still src s0 s then (match store tg (.val x) e with
    | none => .bad
    | some e => (body e s).bind fun f e s => match f with
      | .nx => forL src s0 tg body xs e s
      | .ret m => .ok (.ret m) e s) else .bad
/-- no exception leaves -/
def quiet {α : Type} (r : Res α) : Res α :=
  match r with
  | .ok a e s => .ok a e s
  | _ => .bad
def lcL (src : List Src) (s0 : Store) (own : List Nat) (tg : Tg) (test : Env → Store → Res Bool) (elt : Env → Store → Res D) : List D → List D → Env → Store → Res (List D)
  | [], acc, e, s => if still src s0 s then .ok acc e s else .bad
  | x :: xs, acc, e, s => if still src s0 s then (match store tg (.val x) e with
    | none => .bad
    | some e => (quiet (test e s)).bind fun c e s => if c then (quiet (elt e s)).bind fun d e s => lcL src s0 own tg test elt xs (acc ++ [d]) (wipe e own) s
      else lcL src s0 own tg test elt xs acc (wipe e own) s) else .bad
def whileL (test : Env → Store → Res Bool) (body : Env → Store → Res Flow) : Nat → Env → Store → Res Flow
  | 0, _, _ => .bad
  | k + 1, e, s => (test e s).bind fun c e s => if c then (body e s).bind fun f e s => match f with
    | .nx => whileL test body k e s
    | .ret m => .ok (.ret m) e s
    else .ok .nx e s
def ofRR (r : RR) (e : Env) : Res M :=
  match r with
  | .ok m s => .ok m e s
  | .err c s => .err c e s
  | .bad => .bad
def ofOpt {α : Type} (o : Option α) (e : Env) (s : Store) : Res α :=
  match o with
  | some a => .ok a e s
  | none => .bad
def getB (m : M) (e : Env) (s : Store) : Res Bool :=
  match m with
  | .val (.bl b) => .ok b e s
  | _ => .bad
def isSub (c d : String) : Bool := c == d || d == "GapError"
def tyIs (s : Store) (d : D) (t : Ty) : Option Bool :=
  match t with
  | .own k => match d with
    | .exn c => some (isSub c k)
    | _ => none
  | .valueError => match d with
    | .exn _ => some true
    | _ => none
  | t => match d with
    | .non => some false
    | .bl _ => match t with
      | .bl => some true
      | .int => some true
      | _ => some false
    | .int _ => match t with
      | .int => some true
      | _ => some false
    | .str _ => match t with
      | .str => some true
      | _ => some false
    | .tup _ => match t with
      | .tup => some true
      | _ => some false
    | .lst _ => match t with
      | .lst => some true
      | _ => some false
    | .loc n => match s[n]? with
      | some ⟨.lst _, _⟩ => match t with
        | .lst => some true
        | _ => some false
      | _ => none
    | _ => none
def tyAny (s : Store) (d : D) : List Ty → Option Bool
  | [] => some false
  | t :: ts => match tyIs s d t with
    | some true => some true
    | some false => tyAny s d ts
    | none => none
/-- a container shared from now on -/
def shared (m : M) (s : Store) : M × Store :=
  match m with
  | .ol xs => (.val (.loc s.length), s ++ [⟨.lst xs, 0⟩])
  | .od t kvs => (.val (.loc s.length), s ++ [⟨.dic t kvs, 0⟩])
  | m => (m, s)

section
variable (R : Runs)
/-- two things read, from the left -/
def two {α : Type} (a b : Env → Store → Res (M × Pl)) (k : M → M → Env → Store → Res α) (e : Env) (s : Store) : Res α :=
  (a e s).bind fun x e1 s1 => (b e1 s1).bind fun y e2 s2 =>
    if same (bw x.1 x.2 s1).2 s1 s2 then k (bw x.1 x.2 s1).1 (bw y.1 y.2 s2).1 e2 s2 else .bad
def three {α : Type} (a b c : Env → Store → Res (M × Pl)) (k : M → M → M → Env → Store → Res α) (e : Env) (s : Store) : Res α :=
  (a e s).bind fun x e1 s1 => (b e1 s1).bind fun y e2 s2 => (c e2 s2).bind fun z e3 s3 =>
    if same (bw x.1 x.2 s1).2 s1 s3 && same (bw y.1 y.2 s2).2 s2 s3 then k (bw x.1 x.2 s1).1 (bw y.1 y.2 s2).1 (bw z.1 z.2 s3).1 e3 s3 else .bad
def one {α : Type} (a : Env → Store → Res (M × Pl)) (k : M → Env → Store → Res α) (e : Env) (s : Store) : Res α :=
  (a e s).bind fun x e1 s1 => k (bw x.1 x.2 s1).1 e1 s1
/-- its value, frozen -/
def valD (a : Env → Store → Res (M × Pl)) (e : Env) (s : Store) : Res D :=
  (a e s).bind fun x e1 s1 => (vl x.1 x.2 e1 s1).bind fun m e2 s2 => .ok m.frz e2 s2
def valM (a : Env → Store → Res (M × Pl)) (e : Env) (s : Store) : Res M :=
  (a e s).bind fun x e1 s1 => vl x.1 x.2 e1 s1
def testB (a : Env → Store → Res (M × Pl)) (e : Env) (s : Store) : Res Bool :=
  (a e s).bind fun x e1 s1 => getB x.1 e1 s1
def out (o : Option M) (e : Env) (s : Store) : Res (M × Pl) :=
  match o with
  | some m => .ok (m, .tmp) e s
  | none => .bad
def outB (o : Option Bool) (e : Env) (s : Store) : Res (M × Pl) :=
  match o with
  | some b => .ok (.val (.bl b), .tmp) e s
  | none => .bad
def outM (r : Res M) : Res (M × Pl) := r.bind fun m e s => .ok (m, .tmp) e s
def consD (a : Env → Store → Res D) (r : Env → Store → Res (List D)) (e : Env) (s : Store) : Res (List D) :=
  (a e s).bind fun d e1 s1 => (r e1 s1).bind fun ds e2 s2 => .ok (d :: ds) e2 s2
def rng (i j : Int) : List D := (List.range (j - i).toNat).map fun k => .int (i + (k : Nat))
def rngDown (i j : Int) : List D := (List.range (i - j).toNat).map fun k => .int (i - (k : Nat))
/-- what a walk over it yields -/
def items (m : M) : Option (List D) :=
  match m with
  | .val (.str z) => some (signs z)
  | m => match m.seq? with
    | some xs => some xs
    | none => match m.dic? with
      | some (true, kvs) => some (kvs.map (·.1))
      | _ => none
def pairs (a b : M) : Option (List D) :=
  match a, b with
  | .val (.tup xs), .val (.tup ys) => some ((xs.zip ys).map fun p => .tup [p.1, p.2])
  | a, b => match a.lst?, b.lst? with
    | some xs, some ys => some ((xs.zip ys).map fun p => .tup [p.1, p.2])
    | _, _ => none
def getI (m : M) (e : Env) (s : Store) : Res Int :=
  match m with
  | .val (.int i) => if -(2 ^ 62) ≤ i ∧ i < 2 ^ 62 then .ok i e s else .bad
  | _ => .bad
def rngOk (n : Int) : Bool := decide (n ≤ 16777216)

/-! what follows an operand -/
def bmOk (m : String) (x : M) : Bool := if m = "index" ∨ m = "count" then x.lst?.isSome else (match x with | .val (.str _) => true | _ => false)
def dkOk (x : M) : Bool := match x.dic? with | some _ => true | _ => false
def bm1K (m : String) (x : M × Pl) (s1 : Store) (y : M × Pl) (e2 : Env) (s2 : Store) : Res (M × Pl) := if same (bw x.1 x.2 s1).2 s1 s2 then out (bm1 m (bw x.1 x.2 s1).1 (bw y.1 y.2 s2).1) e2 s2 else .bad
def bm2K (m : String) (x : M × Pl) (s1 : Store) (y : M × Pl) (s2 : Store) (z : M × Pl) (e3 : Env) (s3 : Store) : Res (M × Pl) := if same (bw x.1 x.2 s1).2 s1 s3 && same (bw y.1 y.2 s2).2 s2 s3 then out (bm2 m (bw x.1 x.2 s1).1 (bw y.1 y.2 s2).1 (bw z.1 z.2 s3).1) e3 s3 else .bad
def okV (d : D) (e : Env) (s : Store) : Res (M × Pl) := .ok (.val d, .tmp) e s
def okB (b : Bool) (e : Env) (s : Store) : Res (M × Pl) := .ok (.val (.bl b), .tmp) e s
def varK (m : Option (Option M)) (i : Nat) (e : Env) (s : Store) : Res (M × Pl) :=
  match m with
  | some (some m) => .ok (m, .slot i) e s
  | _ => .bad
def negK (x : M) (e : Env) (s : Store) : Res (M × Pl) :=
  match x with
  | .val (.int i) => okV (.int (-i)) e s
  | _ => .bad
def isNK (n : Bool) (x : M) (e : Env) (s : Store) : Res (M × Pl) := okB (if n then !decide (x = .val .non) else decide (x = .val .non)) e s
def isBK (n b : Bool) (x : M) (e : Env) (s : Store) : Res (M × Pl) :=
  match x with
  | .val (.bl c) => okB (if n then !(c == b) else c == b) e s
  | _ => .bad
def chainK (o : Option Bool) (k : Env → Store → Res (M × Pl)) (e : Env) (s : Store) : Res (M × Pl) :=
  match o with
  | some true => k e s
  | some false => okB false e s
  | none => .bad
/-- no container -/
def valK (m : M) (k : Env → Store → Res (M × Pl)) (e : Env) (s : Store) : Res (M × Pl) := if m.isVal then k e s else .bad
def outD (o : Option D) (e : Env) (s : Store) : Res (M × Pl) :=
  match o with
  | some d => okV d e s
  | none => .bad
def bothK (c : Bool) (k : Env → Store → Res (M × Pl)) (e : Env) (s : Store) : Res (M × Pl) := if c then k e s else okB false e s
def eitherK (c : Bool) (k : Env → Store → Res (M × Pl)) (e : Env) (s : Store) : Res (M × Pl) := if c then okB true e s else k e s
def ifeK (c : Bool) (a b : Env → Store → Res M) (e : Env) (s : Store) : Res (M × Pl) := outM (if c then a e s else b e s)
def dctK (t : Bool) (qs : List (D × D)) (e : Env) (s : Store) : Res (M × Pl) := if qs.all fun p => keyOk t p.1 then .ok (.od t (dmerge [] qs), .tmp) e s else .bad
def partK (x : M × Pl) (e : Env) (s : Store) : Res (Option Int) :=
  match x.1 with
  | .val (.int i) => .ok (some i) e s
  | _ => .bad
def lstK (ds : List D) (e : Env) (s : Store) : Res (M × Pl) := .ok (.ol ds, .tmp) e s
def slcK (x : M × Pl) (s1 : Store) (l h : Option Int) (e3 : Env) (s3 : Store) : Res (M × Pl) :=
  if same (bw x.1 x.2 s1).2 s1 s3 then out (slice (bw x.1 x.2 s1).1 l h) e3 s3 else .bad
def isiK (ts : List Ty) (x : M × Pl) (e : Env) (s : Store) : Res (M × Pl) := outB (tyAny s x.1.frz ts) e s
def attrK (f : String) (x : M × Pl) (e : Env) (s : Store) : Res (M × Pl) :=
  match x.1 with
  | .val (.loc n) => match s[n]? with
    | some ⟨.ins _ fs, _⟩ => match fldGet fs f with
      | some m => .ok (m, .fld n f) e s
      | none => .bad
    | _ => .bad
  | _ => .bad
def callK (f : String) (ds : List D) (e : Env) (s : Store) : Res (M × Pl) := outM (ofRR (R f ds s) e)
def newE (n : Nat) (m : M) (e : Env) (s : Store) : Res (M × Pl) :=
  match m with
  | .val .non => okV (.loc n) e s
  | _ => .bad
def newK (k : String) (ds : List D) (e : Env) (s : Store) : Res (M × Pl) := (ofRR (R (k ++ ".__init__") (.loc s.length :: ds) (s ++ [⟨.ins k [], 0⟩])) e).bind (newE s.length)
def methK (k m : String) (x : M × Pl) (as : Env → Store → Res (List D)) (e : Env) (s : Store) : Res (M × Pl) :=
  match x.1 with
  | .val (.loc n) => match s[n]? with
    | some ⟨.ins k' fs, _⟩ => if k' = k ∧ fldGet fs m = none then (as e s).bind fun ds => callK R (k ++ "." ++ m) (.loc n :: ds) else .bad
    | _ => .bad
  | _ => .bad
def appK (x : M × Pl) (e : Env) (s : Store) : Res (M × Pl) :=
  match x.1 with
  | .val (.lam f ds) => callK R f ds e s
  | _ => .bad
/-- a def is handed a lambda: it gives something flat back, and nothing is changed -/
def lcallK (f g : String) (ds : List D) (e : Env) (s : Store) : Res (M × Pl) :=
  match R f [.lam g ds] s with
  | .ok m s' => if s' = s ∧ m.flat = true then .ok (m, .tmp) e s else .bad
  | _ => .bad
/-- what the lambda captures: values -/
def capsOf (e : Env) : List Nat → Option (List D)
  | [] => some []
  | i :: is => match e[i]? with
    | some (some (.val d)) => (capsOf e is).map (d :: ·)
    | _ => none
def lcallO (f g : String) (o : Option (List D)) (e : Env) (s : Store) : Res (M × Pl) :=
  match o with
  | some ds => lcallK R f g ds e s
  | none => .bad
def lrangeK (x y : M) (e : Env) (s : Store) : Res (M × Pl) := (getI x e s).bind fun i e s => (getI y e s).bind fun j e s => if rngOk (j - i) then .ok (.ol (rng i j), .tmp) e s else .bad
def shareK (x : M × Pl) (e1 : Env) (s1 : Store) : Res (M × Pl) :=
  match x.2 with
  | .tmp => .ok ((shared x.1 s1).1, .tmp) e1 (shared x.1 s1).2
  | _ => .bad
def lcEnd (e1 : Env) (own : List Nat) (ds : List D) (e2 : Env) (s2 : Store) : Res (M × Pl) := .ok (.ol ds, .tmp) (back e1 e2 own) s2
def lcK (own : List Nat) (tg : Tg) (test : Env → Store → Res Bool) (elt : Env → Store → Res D) (x : List D × List Src) (e1 : Env) (s1 : Store) : Res (M × Pl) :=
  if wipeOk e1 own = true ∧ x.1.length ≤ LIM then (lcL x.2 s1 own tg test elt x.1 [] (wipe e1 own) s1).bind (lcEnd e1 own) else .bad
def itK (x : M × Pl) (e : Env) (s : Store) : Res (List D × List Src) :=
  match items (wk x.1 x.2 s).1 with
  | some xs => .ok (xs, (wk x.1 x.2 s).2) e s
  | none => .bad
def rng1K (x : M × Pl) (e : Env) (s : Store) : Res (List D × List Src) := (getI x.1 e s).bind fun j e s => .ok (rng 0 j, []) e s
def rng2K (x y : M) (e : Env) (s : Store) : Res (List D × List Src) :=
  match x, y with
  | .val (.int i), .val (.int j) => .ok (rng i j, []) e s
  | _, _ => .bad
def rng3K (x y z : M) (e : Env) (s : Store) : Res (List D × List Src) :=
  (getI x e s).bind fun i e s => (getI y e s).bind fun j e s => (getI z e s).bind fun k e s => if k = -1 then .ok (rngDown i j, []) e s else .bad
def zipK (x y : M × Pl) (s1 : Store) (e2 : Env) (s2 : Store) : Res (List D × List Src) :=
  if still (wk x.1 x.2 s1).2 s1 s2 then (match pairs (wk x.1 x.2 s1).1 (wk y.1 y.2 s2).1 with
    | some ps => .ok (ps, (wk x.1 x.2 s1).2 ++ (wk y.1 y.2 s2).2) e2 s2
    | none => .bad) else .bad

mutual
def ev : IE → Env → Store → Res (M × Pl)
  | .var i => fun e s => varK e[i]? i e s
  | .cst d => okV d
  | .glob _ d => okV d
  | .bin op a b => two (ev a) (ev b) (fun x y => out (bin op x y))
  | .neg a => one (ev a) negK
  | .cmp op a b => two (ev a) (ev b) (fun x y => outB (cmp op x y))
  | .chain op op2 a b c => two (ev a) (ev b) (fun x y => valK y (chainK (cmp op x y) (one (ev c) fun z => outB (cmp op2 y z))))
  | .chain3 op op2 op3 a b c d => two (ev a) (ev b) (fun x y => valK y (chainK (cmp op x y) (one (ev c) fun z => valK z (chainK (cmp op2 y z) (one (ev d) fun w => outB (cmp op3 z w))))))
  | .isN n a => one (ev a) (isNK n)
  | .isB n a b => one (ev a) (isBK n b)
  | .both a b => fun e s => (testB (ev a) e s).bind fun c => bothK c (ev b)
  | .either a b => fun e s => (testB (ev a) e s).bind fun c => eitherK c (ev b)
  | .nott a => fun e s => (testB (ev a) e s).bind fun c => okB (!c)
  | .ife c a b => fun e s => (testB (ev c) e s).bind fun k => ifeK k (valM (ev a)) (valM (ev b))
  | .tup es => fun e s => (evs es e s).bind fun ds => okV (.tup ds)
  | .lst es => fun e s => (evs es e s).bind lstK
  | .dct t ps => fun e s => (evk ps e s).bind (dctK t)
  | .idx a b => two (ev a) (ev b) (fun x y => outD (index x y))
  | .slc a lo hi => fun e s => (ev a e s).bind fun x e1 s1 => (evo lo e1 s1).bind fun l e2 s2 => (evo hi e2 s2).bind (slcK x s1 l)
  | .attr a f => fun e s => (ev a e s).bind (attrK f)
  | .call f es => fun e s => (evs es e s).bind (callK R f)
  | .new k es => fun e s => (evs es e s).bind (newK R k)
  | .meth o k m es => fun e s => (ev o e s).bind fun x => methK R k m x (evs es)
  | .bi1 f a => one (ev a) (fun x => out (bi1 f x))
  | .bi2 f a b => two (ev a) (ev b) (fun x y => out (bi2 f x y))
  | .bi3 f a b c => three (ev a) (ev b) (ev c) (fun x y z => out (bi3 f x y z))
  | .bm1 m o a => fun e s => (ev o e s).bind fun x e1 s1 => if bmOk m (bw x.1 x.2 s1).1 then (ev a e1 s1).bind (bm1K m x s1) else .bad
  | .bm2 m o a b => fun e s => (ev o e s).bind fun x e1 s1 => if dkOk (bw x.1 x.2 s1).1 then (ev a e1 s1).bind fun y e2 s2 => (ev b e2 s2).bind (bm2K m x s1 y s2) else .bad
  | .isi a _ ts => fun e s => (ev a e s).bind (isiK ts)
  | .lrange a b => two (ev a) (ev b) lrangeK
  | .lc elt tg it c own => fun e s => (evi it e s).bind (lcK own tg (evc c) (valD (ev elt)))
  | .share a => fun e s => (ev a e s).bind shareK
  | .lam f caps => fun e s => (evs caps e s).bind fun ds => okV (.lam f ds)
  | .app a => fun e s => (ev a e s).bind (appK R)
  | .lcall f g caps => fun e s => lcallO R f g (capsOf e caps) e s
  | .bad => fun _ _ => .bad
def evs : IEs → Env → Store → Res (List D)
  | .nil => fun e s => .ok [] e s
  | .cons a r => consD (valD (ev a)) (evs r)
def evk : IPs → Env → Store → Res (List (D × D))
  | .nil => fun e s => .ok [] e s
  | .cons a b r => fun e s => (valD (ev a) e s).bind fun k e s => (valD (ev b) e s).bind fun v e s => (evk r e s).bind fun ps e s => .ok ((k, v) :: ps) e s
def evo : IO → Env → Store → Res (Option Int)
  | .no => fun e s => .ok none e s
  | .yes a => fun e s => (ev a e s).bind partK
def evc : IO → Env → Store → Res Bool
  | .no => fun e s => .ok true e s
  | .yes a => testB (ev a)
def evi : It → Env → Store → Res (List D × List Src)
  | .of a => fun e s => (ev a e s).bind itK
  | .rng1 a => fun e s => (ev a e s).bind rng1K
  | .rng2 a b => two (ev a) (ev b) rng2K
  | .rng3 a b c => three (ev a) (ev b) (ev c) rng3K
  | .zip a b => fun e s => (ev a e s).bind fun x e1 s1 => (ev b e1 s1).bind fun y => zipK x y s1
end

/-! ### statements -/
/-- the container that a place holds, to be changed -/
def holdK (sl : List Nat) (p : Pl) : Option Pl :=
  match p with
  | .slot i => if i ∈ sl then some (.slot i) else none
  | .fld n f => some (.fld n f)
  | _ => none
def hold (sl : List Nat) (m : M) (p : Pl) : Option Pl :=
  match m with
  | .val (.loc n) => some (.obj n)
  | .val _ => none
  | _ => holdK sl p
def curr (p : Pl) (e : Env) (s : Store) : Option M :=
  match p with
  | .slot i => match e[i]? with
    | some (some m) => some m
    | _ => none
  | .fld n f => match s[n]? with
    | some ⟨.ins _ fs, _⟩ => fldGet fs f
    | _ => none
  | .obj n => match s[n]? with
    | some ⟨.lst xs, _⟩ => some (.ol xs)
    | some ⟨.dic t kvs, _⟩ => some (.od t kvs)
    | _ => none
  | _ => none
def put (p : Pl) (m : M) (e : Env) (s : Store) : Option (Env × Store) :=
  match p with
  | .slot i => some (e.set i (some m), s)
  | .fld n f => match s[n]? with
    | some ⟨.ins c fs, v⟩ => some (e, s.set n ⟨.ins c (fldPut fs f m), v + 1⟩)
    | _ => none
  | .obj n => match s[n]?, m with
    | some ⟨.lst _, v⟩, .ol xs => some (e, s.set n ⟨.lst xs, v + 1⟩)
    | some ⟨.dic _ _, v⟩, .od t kvs => some (e, s.set n ⟨.dic t kvs, v + 1⟩)
    | _, _ => none
  | _ => none
/-- a field's object must stand as it stood when the place was reckoned -/
def Pl.fsrc : Pl → Option Nat
  | .fld n _ => some n
  | _ => none
def mutate0 (f : String) (m : M) : Option M :=
  match f, m with
  | "clear", .ol _ => some (.ol [])
  | "reverse", .ol xs => some (.ol xs.reverse)
  | _, _ => none
def mutate1 (f : String) (m : M) (d : D) : Option M :=
  match f, m with
  | "append", .ol xs => if xs.length < LIM then some (.ol (xs ++ [d])) else none
  | "extend", .ol xs => match d with
    | .lst ys => if xs.length + ys.length ≤ LIM then some (.ol (xs ++ ys)) else none
    | _ => none
  | "update", .od false kvs => match d with
    | .dic false more => if kvs.length + more.length ≤ LIM then some (.od false (dmerge kvs more)) else none
    | _ => none
  | _, _ => none
def setItem (m : M) (k d : D) : Option M :=
  match m with
  | .ol xs => match k with
    | .int i => (L2.ixN xs.length i).map fun j => .ol (xs.set j d)
    | _ => none
  | .od false kvs => if keyOk false k ∧ kvs.length < LIM then some (.od false (dput kvs k d)) else none
  | .od true kvs => if keyOk true k ∧ kvs.length < LIM then some (.od true (dput kvs k d)) else none
  | _ => none
def movedK (m : M) (p : Pl) (e : Env) (s : Store) : Res Flow :=
  match p with
  | .slot _ => .ok (.ret m) e s
  | .tmp => .ok (.ret m) e s
  | _ => .bad
def moved (x : M × Pl) (e : Env) (s : Store) : Res Flow :=
  match x.1 with
  | .val d => .ok (.ret (.val d)) e s
  | m => movedK m x.2 e s
/-- a test's end: nothing was changed, so the slots' containers are own again -/
def testS (a : Env → Store → Res (M × Pl)) (e : Env) (s : Store) : Res Bool :=
  (testB a e s).bind fun k e1 s1 => .ok k (if s1 = s then e else e1) s1
def pushPl (p : Pl) (om : Option M) (e : Env) (s : Store) : Res Flow :=
  match om with
  | some m => match put p m e s with
    | some (e, s) => .ok .nx e s
    | none => .bad
  | none => .bad

/-- a place's content is exchanged; s1: the store when the place was reckoned -/
def atK (sl : List Nat) (x : M × Pl) (s1 : Store) (f : M → Option M) (e2 : Env) (s2 : Store) : Res Flow :=
  match hold sl x.1 x.2 with
  | some p => if same p.fsrc s1 s2 then (match curr p e2 s2 with
    | some m => pushPl p (f m) e2 s2
    | none => .bad) else .bad
  | none => if x.2 = .tmp ∧ x.1.isVal = false ∧ (f x.1).isSome = true then .ok .nx e2 s2 else .bad
def mut0K (f : String) (sl : List Nat) (x : M × Pl) (e1 : Env) (s1 : Store) : Res Flow := atK sl x s1 (mutate0 f) e1 s1
def kindOk (f : String) (m : M) : Bool := if f = "update" then (match m.dic? with | some (false, _) => true | _ => false) else m.lst1?.isSome
def mut1K (f : String) (sl : List Nat) (a : Env → Store → Res D) (x : M × Pl) (e1 : Env) (s1 : Store) : Res Flow :=
  if kindOk f (bw x.1 x.2 s1).1 then (a e1 s1).bind fun d e2 s2 => atK sl x s1 (fun m => mutate1 f m d) e2 s2 else .bad
/-- the slot that a container's expression names -/
def IE.slot? : IE → List Nat
  | .var i => [i]
  | _ => []
def Tg.slots : Tg → List Nat
  | .one i => [i]
  | .many is => is
mutual
/-- the slots that a statement may store or whose containers it may change -/
def wr : IS → List Nat
  | .asg t _ => t.slots
  | .pop t o => t :: o.slot?
  | .setA _ _ _ => []
  | .setI o _ _ => o.slot?
  | .ret _ => []
  | .ifs _ a b => wrs a ++ wrs b
  | .expr _ => []
  | .mut0 _ o => o.slot?
  | .mut1 _ o _ => o.slot?
  | .fors tg _ b => tg.slots ++ wrs b
  | .whil _ b => wrs b
  | .rais _ => []
  | .tryA b _ _ i h => i :: (wrs b ++ wrs h)
  | .tryM b _ hs => wrs b ++ wrh hs
  | .pass => []
  | .bad => []
def wrs : ISs → List Nat
  | .nil => []
  | .cons a r => wr a ++ wrs r
def wrh : IHs → List Nat
  | .nil => []
  | .cons _ b r => wrs b ++ wrh r
end
/-- a walk's source in a slot is left alone by the body -/
def apart (ws : List Src) (l : List Nat) : Bool := ws.all fun w => match w with
  | .ent _ => true
  | .slot i => !l.contains i
mutual
/-- no caught exception within -/
def D.noEx : D → Bool
  | .tup xs => D.noExs xs
  | .lst xs => D.noExs xs
  | .dic _ kvs => D.noExk kvs
  | .exn _ => false
  | .lam _ xs => D.noExs xs
  | _ => true
def D.noExs : List D → Bool
  | [] => true
  | x :: xs => D.noEx x && D.noExs xs
def D.noExk : List (D × D) → Bool
  | [] => true
  | (_, b) :: xs => D.noEx b && D.noExk xs
end
/-- an except suite that names the exception: it returns, and changes nothing -/
def caught (i : Nat) (s1 : Store) (r : Res Flow) : Res Flow :=
  match r with
  | .ok (.ret m) e2 s2 => if s2 = s1 ∧ m.frz.noEx = true then .ok (.ret m) (e2.set i none) s2 else .bad
  | _ => .bad
mutual
def exec (W : Nat) : IS → Env → Store → Res Flow
  | .asg t a => fun e s => (valM (ev R a) e s).bind fun m e1 s1 => match store t m (keep m e e1 s s1) with
    | some e2 => .ok .nx e2 s1
    | none => .bad
  | .pop t o => fun e s => (ev R o e s).bind fun x e1 s1 => match hold o.slot? x.1 x.2 with
    | some p => match curr p e1 s1 with
      | some (.ol xs) => match xs.getLast? with
        | some d => match put p (.ol xs.dropLast) e1 s1 with
          | some (e2, s2) => match store (.one t) (.val d) e2 with
            | some e3 => .ok .nx e3 s2
            | none => .bad
          | none => .bad
        | none => .bad
      | _ => .bad
    | none => .bad
  | .setA o f a => fun e s => (valM (ev R a) e s).bind fun m e1 s1 => (ev R o e1 s1).bind fun x e2 s2 => match x.1 with
    | .val (.loc n) => match s2[n]? with
      | some ⟨.ins c fs, v⟩ => if fs.length < 900 then .ok .nx (keep m e e2 s s2) (s2.set n ⟨.ins c (fldPut fs f m), v + 1⟩) else .bad
      | _ => .bad
    | _ => .bad
  | .setI o i a => fun e s => (valD (ev R a) e s).bind fun d e1 s1 => (ev R o e1 s1).bind fun x e2 s2 => (valD (ev R i) e2 s2).bind fun k e3 s3 => atK o.slot? x s2 (fun m => setItem m k d) e3 s3
  | .ret a => fun e s => (ev R a e s).bind fun x e1 s1 => moved x e1 s1
  | .ifs c a b => fun e s => (testS (ev R c) e s).bind fun k e1 s1 => if k then execs W a e1 s1 else execs W b e1 s1
  | .expr a => fun e s => (valM (ev R a) e s).bind fun _ e1 s1 => .ok .nx (if s1 = s then e else e1) s1
  | .mut0 f o => fun e s => (ev R o e s).bind fun x e1 s1 => mut0K f o.slot? x e1 s1
  | .mut1 f o a => fun e s => (ev R o e s).bind fun x e1 s1 => mut1K f o.slot? (valD (ev R a)) x e1 s1
  | .fors tg it b => fun e s => (evi R it e s).bind fun x e1 s1 => if apart x.2 (tg.slots ++ wrs b) then forL x.2 s1 tg (execs W b) x.1 e1 s1 else .bad
  | .whil c b => fun e s => whileL (testS (ev R c)) (execs W b) W e s
  | .rais c => fun e s => .err c e s
  | .tryA b ks c i h => fun e s => match execs W b e s with
    | .ok f e1 s1 => .ok f e1 s1
    | .err c' e1 s1 => if ks.contains c' then (if isSub c' c then (if i < e1.length then caught i s1 (execs W h (e1.set i (some (.val (.exn c')))) s1) else .bad) else .err c' e1 s1) else .bad
    | .bad => .bad
  | .tryM b ks hs => fun e s => match execs W b e s with
    | .ok f e1 s1 => .ok f e1 s1
    | .err c e1 s1 => if ks.contains c then execH W hs c e1 s1 else .bad
    | .bad => .bad
  | .pass => fun e s => .ok .nx e s
  | .bad => fun _ _ => .bad
def execs (W : Nat) : ISs → Env → Store → Res Flow
  | .nil => fun e s => .ok .nx e s
  | .cons a r => fun e s => (exec W a e s).bind fun f e s => match f with
    | .nx => execs W r e s
    | .ret m => .ok (.ret m) e s
def execH (W : Nat) : IHs → String → Env → Store → Res Flow
  | .nil => fun c e s => .err c e s
  | .cons d b r => fun c e s => if isSub c d then quiet (execs W b e s) else execH W r c e s
end
end

/-! ### defs -/
mutual
def D.locsLt (n : Nat) : D → Bool
  | .tup xs => D.locsLts n xs
  | .lst xs => D.locsLts n xs
  | .dic _ kvs => D.locsLtk n kvs
  | .loc k => decide (k < n)
  | .lam _ xs => D.locsLts n xs
  | _ => true
def D.locsLts (n : Nat) : List D → Bool
  | [] => true
  | x :: xs => D.locsLt n x && D.locsLts n xs
def D.locsLtk (n : Nat) : List (D × D) → Bool
  | [] => true
  | (a, b) :: xs => D.locsLt n a && D.locsLt n b && D.locsLtk n xs
end
def M.locsLt (n : Nat) (m : M) : Bool := m.frz.locsLt n
/-- what was made meanwhile and can't be reached any more is dropped -/
def gc (s0 : Store) (m : M) (s : Store) : Store := if s.take s0.length = s0 ∧ m.locsLt s0.length = true then s0 else s
def fin (s0 : Store) (r : Res Flow) : RR :=
  match r with
  | .ok .nx _ s => .ok (.val .non) (gc s0 (.val .non) s)
  | .ok (.ret m) _ s => .ok m (gc s0 m s)
  | .err c _ s => .err c (gc s0 (.val .non) s)
  | .bad => .bad
def look (P : Prog) (f : String) : Option Fn := (P.find? fun p => p.1 == f).map (·.2)
def begun (fn : Fn) (ds : List D) : Env := ds.map (fun d => some (.val d)) ++ List.replicate (fn.ns - ds.length) none
def run (P : Prog) (W : Nat) : Nat → Runs
  | 0 => fun _ _ _ => .bad
  | n + 1 => fun f ds s => match look P f with
    | some fn => if ds.length = fn.np ∧ fn.np ≤ fn.ns then fin s (execs (run P W n) W fn.body (begun fn ds) s) else .bad
    | none => .bad
end OI

namespace OI
/-! ### the program as OI has it -/
-- narrowed: lows highs total least most low high
def f_narrowed : Fn := ⟨3, 7, (.cons (.ifs (.isN false (.var 2)) (.cons (.ret (.tup (.cons (.var 0) (.cons (.var 1) .nil))))
  .nil) .nil)
  (.cons (.ifs (.nott (.chain .le .le (.bi1 "sum" (.var 0)) (.var 2) (.bi1 "sum" (.var 1)))) (.cons (.ret (.cst .non))
  .nil) .nil)
  (.cons (.asg (.one 3) (.lst .nil))
  (.cons (.asg (.one 4) (.lst .nil))
  (.cons (.fors (.many [5, 6]) (.zip (.var 0) (.var 1)) (.cons (.mut1 "append" (.var 3) (.bi2 "max" (.var 5) (.bin .sub (.var 2) (.bin .sub (.bi1 "sum" (.var 1)) (.var 6)))))
  (.cons (.mut1 "append" (.var 4) (.bi2 "min" (.var 6) (.bin .sub (.var 2) (.bin .sub (.bi1 "sum" (.var 0)) (.var 5)))))
  .nil)))
  (.cons (.ret (.tup (.cons (.var 3) (.cons (.var 4) .nil))))
  .nil))))))⟩
-- is_box: box lows highs total k
def f_is_box : Fn := ⟨1, 5, (.cons (.asg (.many [1, 2, 3]) (.var 0))
  (.cons (.ifs (.either (.nott (.chain .le .le (.cst (.int 1)) (.bi1 "len" (.var 1)) (.glob "MOST_PLACES" (.int 3)))) (.cmp .ne (.bi1 "len" (.var 1)) (.bi1 "len" (.var 2)))) (.cons (.ret (.cst (.bl false)))
  .nil) .nil)
  (.cons (.ret (.cmp .eq (.lc (.var 4) (.one 4) (.rng1 (.bi1 "len" (.var 1))) (.yes (.nott (.chain3 .le .le .le (.cst (.int 0)) (.idx (.var 1) (.var 4)) (.idx (.var 2) (.var 4)) (.glob "MOST_HIGH" (.int 7))))) [4]) (.lst .nil)))
  .nil)))⟩
-- tightened: lows highs total found
def f_tightened : Fn := ⟨3, 4, (.cons (.asg (.one 3) (.call "narrowed" (.cons (.var 0) (.cons (.var 1) (.cons (.var 2) .nil)))))
  (.cons (.ret (.ife (.isN false (.var 3)) (.cst .non) (.tup (.cons (.bi1 "tuple" (.idx (.var 3) (.cst (.int 0)))) (.cons (.bi1 "tuple" (.idx (.var 3) (.cst (.int 1)))) .nil)))))
  .nil))⟩
-- tight: box found
def f_tight : Fn := ⟨1, 2, (.cons (.ifs (.nott (.call "is_box" (.cons (.var 0) .nil))) (.cons (.rais "NoBox")
  .nil) .nil)
  (.cons (.asg (.one 1) (.call "tightened" (.cons (.idx (.var 0) (.cst (.int 0))) (.cons (.idx (.var 0) (.cst (.int 1))) (.cons (.idx (.var 0) (.cst (.int 2))) .nil)))))
  (.cons (.ifs (.isN false (.var 1)) (.cons (.rais "NoWorld")
  .nil) .nil)
  (.cons (.ret (.bin .add (.var 1) (.tup (.cons (.idx (.var 0) (.cst (.int 2))) .nil))))
  .nil))))⟩
-- looks_in: lows highs found k many
def f_looks_in : Fn := ⟨2, 5, (.cons (.asg (.one 2) (.lst .nil))
  (.cons (.fors (.one 3) (.rng1 (.bi1 "len" (.var 0))) (.cons (.mut1 "extend" (.var 2) (.lc (.tup (.cons (.var 3) (.cons (.var 4) .nil))) (.one 4) (.rng2 (.bin .add (.idx (.var 0) (.var 3)) (.cst (.int 1))) (.bin .add (.idx (.var 1) (.var 3)) (.cst (.int 1)))) .no [4]))
  .nil))
  (.cons (.ret (.var 2))
  .nil)))⟩
-- answered: lows highs total look k many yes
def f_answered : Fn := ⟨4, 7, (.cons (.asg (.many [4, 5]) (.var 3))
  (.cons (.asg (.one 6) (.call "tightened" (.cons (.bin .add (.bin .add (.slc (.var 0) .no (.yes (.var 4))) (.tup (.cons (.var 5) .nil))) (.slc (.var 0) (.yes (.bin .add (.var 4) (.cst (.int 1)))) .no)) (.cons (.var 1) (.cons (.var 2) .nil)))))
  (.cons (.ret (.tup (.cons (.var 6) (.cons (.call "tightened" (.cons (.var 0) (.cons (.bin .add (.bin .add (.slc (.var 1) .no (.yes (.var 4))) (.tup (.cons (.bin .sub (.var 5) (.cst (.int 1))) .nil))) (.slc (.var 1) (.yes (.bin .add (.var 4) (.cst (.int 1)))) .no)) (.cons (.var 2) .nil)))) .nil))))
  .nil)))⟩
-- Search.__init__: self total
def f_Search_init : Fn := ⟨2, 2, (.cons (.setA (.var 0) "total" (.var 1))
  (.cons (.setA (.var 0) "known" (.dct true .nil))
  .nil))⟩
-- Search.best: self sides found look depth
def f_Search_best : Fn := ⟨2, 5, (.cons (.ifs (.cmp .nin (.var 1) (.attr (.var 0) "known")) (.cons (.asg (.one 2) (.tup (.cons (.cst (.int 0)) (.cons (.cst .non) .nil))))
  (.cons (.fors (.one 3) (.of (.call "looks_in" (.cons (.idx (.var 1) (.cst (.int 0))) (.cons (.idx (.var 1) (.cst (.int 1))) .nil)))) (.cons (.asg (.one 4) (.bin .add (.cst (.int 1)) (.meth (.var 0) "Search" "worst" (.cons (.var 1) (.cons (.var 3) .nil)))))
  (.cons (.ifs (.either (.isN false (.idx (.var 2) (.cst (.int 1)))) (.cmp .lt (.var 4) (.idx (.var 2) (.cst (.int 0))))) (.cons (.asg (.one 2) (.tup (.cons (.var 4) (.cons (.var 3) .nil))))
  .nil) .nil)
  .nil)))
  (.cons (.setI (.attr (.var 0) "known") (.var 1) (.var 2))
  .nil))) .nil)
  (.cons (.ret (.idx (.attr (.var 0) "known") (.var 1)))
  .nil))⟩
-- Search.worst: self sides look yes no
def f_Search_worst : Fn := ⟨3, 5, (.cons (.asg (.many [3, 4]) (.call "answered" (.cons (.idx (.var 1) (.cst (.int 0))) (.cons (.idx (.var 1) (.cst (.int 1))) (.cons (.attr (.var 0) "total") (.cons (.var 2) .nil))))))
  (.cons (.ret (.bi2 "max" (.idx (.meth (.var 0) "Search" "best" (.cons (.var 3) .nil)) (.cst (.int 0))) (.idx (.meth (.var 0) "Search" "best" (.cons (.var 4) .nil)) (.cst (.int 0)))))
  .nil))⟩
-- Search.plan: self sides look yes no
def f_Search_plan : Fn := ⟨2, 5, (.cons (.asg (.one 2) (.idx (.meth (.var 0) "Search" "best" (.cons (.var 1) .nil)) (.cst (.int 1))))
  (.cons (.ifs (.isN false (.var 2)) (.cons (.ret (.tup .nil))
  .nil) .nil)
  (.cons (.asg (.many [3, 4]) (.call "answered" (.cons (.idx (.var 1) (.cst (.int 0))) (.cons (.idx (.var 1) (.cst (.int 1))) (.cons (.attr (.var 0) "total") (.cons (.var 2) .nil))))))
  (.cons (.ret (.bin .add (.var 2) (.tup (.cons (.meth (.var 0) "Search" "plan" (.cons (.var 3) .nil)) (.cons (.meth (.var 0) "Search" "plan" (.cons (.var 4) .nil)) .nil)))))
  .nil))))⟩
-- least: box lows highs total search
def f_least : Fn := ⟨1, 5, (.cons (.asg (.many [1, 2, 3]) (.call "tight" (.cons (.var 0) .nil)))
  (.cons (.asg (.one 4) (.new "Search" (.cons (.var 3) .nil)))
  (.cons (.ret (.tup (.cons (.idx (.meth (.var 4) "Search" "best" (.cons (.tup (.cons (.var 1) (.cons (.var 2) .nil))) .nil)) (.cst (.int 0))) (.cons (.meth (.var 4) "Search" "plan" (.cons (.tup (.cons (.var 1) (.cons (.var 2) .nil))) .nil)) .nil))))
  .nil)))⟩
-- walked: plan world found k many yes no
def f_walked : Fn := ⟨2, 7, (.cons (.asg (.one 2) (.lst .nil))
  (.cons (.whil (.cmp .ne (.var 0) (.tup .nil)) (.cons (.asg (.many [3, 4, 5, 6]) (.var 0))
  (.cons (.mut1 "append" (.var 2) (.tup (.cons (.var 3) (.cons (.var 4) (.cons (.cmp .ge (.idx (.var 1) (.var 3)) (.var 4)) .nil)))))
  (.cons (.asg (.one 0) (.ife (.cmp .ge (.idx (.var 1) (.var 3)) (.var 4)) (.var 5) (.var 6)))
  .nil))))
  (.cons (.ret (.var 2))
  .nil)))⟩
-- _law_start: _law_script _law_mixed _law_cell
def f__law_start : Fn := ⟨1, 3, (.cons (.asg (.one 1) (.cst (.int 1)))
  (.cons (.fors (.one 2) (.of (.var 0)) (.cons (.asg (.one 1) (.bin .mod (.bin .add (.bin .add (.bin .mul (.var 1) (.cst (.int 48271))) (.var 2)) (.cst (.int 7))) (.cst (.int 2147483647))))
  .nil))
  (.cons (.ret (.share (.lst (.cons (.var 0) (.cons (.cst (.int 0)) (.cons (.var 1) (.cons (.cst (.int 0)) .nil)))))))
  .nil)))⟩
-- _law_drawn: _law_state _law_many _law_found _law_cell
def f__law_drawn : Fn := ⟨2, 4, (.cons (.ifs (.cmp .gt (.idx (.var 0) (.cst (.int 3))) (.cst (.int 0))) (.cons (.asg (.one 2) (.bin .mod (.idx (.var 0) (.cst (.int 3))) (.var 1)))
  (.cons (.setI (.var 0) (.cst (.int 3)) (.bin .fdiv (.idx (.var 0) (.cst (.int 3))) (.var 1)))
  (.cons (.ret (.var 2))
  .nil))) .nil)
  (.cons (.setI (.var 0) (.cst (.int 1)) (.bin .add (.idx (.var 0) (.cst (.int 1))) (.cst (.int 1))))
  (.cons (.ifs (.cmp .le (.idx (.var 0) (.cst (.int 1))) (.bi1 "len" (.idx (.var 0) (.cst (.int 0))))) (.cons (.asg (.one 3) (.idx (.idx (.var 0) (.cst (.int 0))) (.bin .sub (.idx (.var 0) (.cst (.int 1))) (.cst (.int 1)))))
  (.cons (.setI (.var 0) (.cst (.int 3)) (.ife (.cmp .ge (.var 3) (.bin .pow (.cst (.int 10)) (.cst (.int 18)))) (.bin .fdiv (.var 3) (.var 1)) (.cst (.int 0))))
  (.cons (.ret (.bin .mod (.var 3) (.var 1)))
  .nil))) .nil)
  (.cons (.setI (.var 0) (.cst (.int 2)) (.bin .mod (.bin .add (.bin .mul (.idx (.var 0) (.cst (.int 2))) (.cst (.int 48271))) (.cst (.int 11))) (.cst (.int 2147483647))))
  (.cons (.ret (.bin .mod (.bin .fdiv (.idx (.var 0) (.cst (.int 2))) (.cst (.int 7))) (.var 1)))
  .nil)))))⟩
-- _law_same: _law_found _law_due _law_k
def f__law_same : Fn := ⟨2, 3, (.cons (.ifs (.isi (.var 1) false [.tup, .lst]) (.cons (.ifs (.either (.nott (.isi (.var 0) false [.tup, .lst])) (.cmp .ne (.isi (.var 0) true [.lst]) (.isi (.var 1) true [.lst]))) (.cons (.ret (.cst (.bl false)))
  .nil) .nil)
  (.cons (.ifs (.cmp .ne (.bi1 "len" (.var 0)) (.bi1 "len" (.var 1))) (.cons (.ret (.cst (.bl false)))
  .nil) .nil)
  (.cons (.ret (.cmp .eq (.lc (.var 2) (.one 2) (.rng1 (.bi1 "len" (.var 1))) (.yes (.nott (.call "_law_same" (.cons (.idx (.var 0) (.var 2)) (.cons (.idx (.var 1) (.var 2)) .nil))))) [2]) (.lst .nil)))
  .nil))) .nil)
  (.cons (.ifs (.isN false (.var 1)) (.cons (.ret (.isN false (.var 0)))
  .nil) .nil)
  (.cons (.ifs (.isi (.var 1) true [.str]) (.cons (.ret (.both (.isi (.var 0) true [.str]) (.cmp .eq (.var 0) (.var 1))))
  .nil) .nil)
  (.cons (.ifs (.either (.isi (.var 1) true [.bl]) (.isi (.var 0) true [.bl])) (.cons (.ret (.both (.isi (.var 1) true [.bl]) (.both (.isi (.var 0) true [.bl]) (.cmp .eq (.var 0) (.var 1)))))
  .nil) .nil)
  (.cons (.ret (.both (.isi (.var 0) true [.int]) (.cmp .eq (.var 0) (.var 1))))
  .nil)))))⟩
-- _law_box: _law_state _law_many _law_wide _law_lows _law_highs _law_k _law_low _law_some _law_high _law_total
def f__law_box : Fn := ⟨1, 10, (.cons (.asg (.one 1) (.bin .add (.cst (.int 1)) (.call "_law_drawn" (.cons (.var 0) (.cons (.cst (.int 3)) .nil)))))
  (.cons (.asg (.one 2) (.idx (.lst (.cons (.cst (.int 8)) (.cons (.cst (.int 6)) (.cons (.cst (.int 4)) .nil)))) (.bin .sub (.var 1) (.cst (.int 1)))))
  (.cons (.asg (.one 3) (.lst .nil))
  (.cons (.asg (.one 4) (.lst .nil))
  (.cons (.fors (.one 5) (.rng1 (.var 1)) (.cons (.asg (.one 6) (.bin .mul (.call "_law_drawn" (.cons (.var 0) (.cons (.cst (.int 3)) .nil))) (.call "_law_drawn" (.cons (.var 0) (.cons (.cst (.int 2)) .nil)))))
  (.cons (.mut1 "append" (.var 3) (.var 6))
  (.cons (.mut1 "append" (.var 4) (.bi2 "min" (.cst (.int 7)) (.bin .add (.var 6) (.call "_law_drawn" (.cons (.var 0) (.cons (.var 2) .nil))))))
  .nil))))
  (.cons (.asg (.one 7) (.bi1 "sum" (.lc (.bin .add (.var 6) (.call "_law_drawn" (.cons (.var 0) (.cons (.bin .add (.bin .sub (.var 8) (.var 6)) (.cst (.int 1))) .nil)))) (.many [6, 8]) (.zip (.var 3) (.var 4)) .no [6, 8])))
  (.cons (.asg (.one 9) (.idx (.lst (.cons (.cst .non) (.cons (.var 7) (.cons (.var 7) (.cons (.var 7) .nil))))) (.call "_law_drawn" (.cons (.var 0) (.cons (.cst (.int 4)) .nil)))))
  (.cons (.ifs (.cmp .eq (.call "_law_drawn" (.cons (.var 0) (.cons (.cst (.int 12)) .nil))) (.cst (.int 11))) (.cons (.asg (.one 9) (.idx (.lst (.cons (.bin .sub (.cst (.int 0)) (.cst (.int 1))) (.cons (.bin .sub (.bi1 "sum" (.var 3)) (.cst (.int 1))) (.cons (.bin .add (.bi1 "sum" (.var 4)) (.cst (.int 1))) (.cons (.bin .pow (.cst (.int 10)) (.cst (.int 59))) .nil))))) (.call "_law_drawn" (.cons (.var 0) (.cons (.cst (.int 4)) .nil)))))
  .nil) .nil)
  (.cons (.ret (.tup (.cons (.bi1 "tuple" (.var 3)) (.cons (.bi1 "tuple" (.var 4)) (.cons (.var 9) .nil)))))
  .nil)))))))))⟩
-- _law_of: _law_lows _law_highs _law_total _law_found _law_low _law_high _law_world
def f__law_of : Fn := ⟨3, 7, (.cons (.asg (.one 3) (.lst (.cons (.tup .nil) .nil)))
  (.cons (.fors (.many [4, 5]) (.zip (.var 0) (.var 1)) (.cons (.asg (.one 3) (.call "_law_longer" (.cons (.var 3) (.cons (.var 4) (.cons (.var 5) .nil)))))
  .nil))
  (.cons (.ret (.lc (.var 6) (.one 6) (.of (.var 3)) (.yes (.either (.isN false (.var 2)) (.cmp .eq (.bi1 "sum" (.var 6)) (.var 2)))) [6]))
  .nil)))⟩
-- _law_longer: _law_found _law_low _law_high _law_longer_here _law_world _law_many
def f__law_longer : Fn := ⟨3, 6, (.cons (.asg (.one 3) (.lst .nil))
  (.cons (.fors (.one 4) (.of (.var 0)) (.cons (.mut1 "extend" (.var 3) (.lc (.bin .add (.var 4) (.tup (.cons (.var 5) .nil))) (.one 5) (.rng2 (.var 1) (.bin .add (.var 2) (.cst (.int 1)))) .no [5]))
  .nil))
  (.cons (.ret (.var 3))
  .nil)))⟩
-- _law_is_plan: _law_plan _law_places _law_number
def f__law_is_plan : Fn := ⟨2, 3, (.cons (.ifs (.either (.nott (.isi (.var 0) true [.tup])) (.cmp .nin (.bi1 "len" (.var 0)) (.lst (.cons (.cst (.int 0)) (.cons (.cst (.int 4)) .nil))))) (.cons (.ret (.cst (.bl false)))
  .nil) .nil)
  (.cons (.ifs (.cmp .eq (.var 0) (.tup .nil)) (.cons (.ret (.cst (.bl true)))
  .nil) .nil)
  (.cons (.fors (.one 2) (.of (.slc (.var 0) .no (.yes (.cst (.int 2))))) (.cons (.ifs (.either (.nott (.isi (.var 2) true [.int])) (.isi (.var 2) true [.bl])) (.cons (.ret (.cst (.bl false)))
  .nil) .nil)
  .nil))
  (.cons (.ret (.both (.chain .le .lt (.cst (.int 0)) (.idx (.var 0) (.cst (.int 0))) (.var 1)) (.both (.call "_law_is_plan" (.cons (.idx (.var 0) (.cst (.int 2))) (.cons (.var 1) .nil))) (.call "_law_is_plan" (.cons (.idx (.var 0) (.cst (.int 3))) (.cons (.var 1) .nil))))))
  .nil))))⟩
-- _law_deep: _law_plan
def f__law_deep : Fn := ⟨1, 1, (.cons (.ret (.ife (.cmp .eq (.var 0) (.tup .nil)) (.cst (.int 0)) (.bin .add (.cst (.int 1)) (.bi2 "max" (.call "_law_deep" (.cons (.idx (.var 0) (.cst (.int 2))) .nil)) (.call "_law_deep" (.cons (.idx (.var 0) (.cst (.int 3))) .nil))))))
  .nil)⟩
-- _law_settles: _law_plan _law_every _law_yes _law_world _law_no
def f__law_settles : Fn := ⟨2, 5, (.cons (.ifs (.cmp .eq (.var 0) (.tup .nil)) (.cons (.ret (.cmp .eq (.bi1 "len" (.var 1)) (.cst (.int 1))))
  .nil) .nil)
  (.cons (.asg (.one 2) (.lc (.var 3) (.one 3) (.of (.var 1)) (.yes (.cmp .ge (.idx (.var 3) (.idx (.var 0) (.cst (.int 0)))) (.idx (.var 0) (.cst (.int 1))))) [3]))
  (.cons (.asg (.one 4) (.lc (.var 3) (.one 3) (.of (.var 1)) (.yes (.cmp .lt (.idx (.var 3) (.idx (.var 0) (.cst (.int 0)))) (.idx (.var 0) (.cst (.int 1))))) [3]))
  (.cons (.ret (.both (.cmp .ne (.var 2) (.lst .nil)) (.both (.cmp .ne (.var 4) (.lst .nil)) (.both (.call "_law_settles" (.cons (.idx (.var 0) (.cst (.int 2))) (.cons (.var 2) .nil))) (.call "_law_settles" (.cons (.idx (.var 0) (.cst (.int 3))) (.cons (.var 4) .nil)))))))
  .nil))))⟩
-- _law_left: _law_every _law_asked _law_found _law_k _law_many _law_answer _law_world
def f__law_left : Fn := ⟨2, 7, (.cons (.asg (.one 2) (.var 0))
  (.cons (.fors (.many [3, 4, 5]) (.of (.var 1)) (.cons (.asg (.one 2) (.lc (.var 6) (.one 6) (.of (.var 2)) (.yes (.cmp .eq (.cmp .ge (.idx (.var 6) (.var 3)) (.var 4)) (.var 5))) [6]))
  .nil))
  (.cons (.ret (.var 2))
  .nil)))⟩
-- law: _law_script _law_state _law_turn _law_box_here _law_every _law_found _law_depth _law_plan _law_most _law_world _law_asked
def f_law : Fn := ⟨1, 11, (.cons (.asg (.one 1) (.call "_law_start" (.cons (.var 0) .nil)))
  (.cons (.fors (.one 2) (.rng1 (.cst (.int 4))) (.cons (.asg (.one 3) (.call "_law_box" (.cons (.var 1) .nil)))
  (.cons (.asg (.one 4) (.call "_law_of" (.cons (.idx (.var 3) (.cst (.int 0))) (.cons (.idx (.var 3) (.cst (.int 1))) (.cons (.idx (.var 3) (.cst (.int 2))) .nil)))))
  (.cons (.ifs (.cmp .ne (.var 4) (.lst .nil)) (.cons (.asg (.one 5) (.call "least" (.cons (.var 3) .nil)))
  (.cons (.ifs (.either (.nott (.isi (.var 5) true [.tup])) (.either (.cmp .ne (.bi1 "len" (.var 5)) (.cst (.int 2))) (.nott (.call "_law_is_plan" (.cons (.idx (.var 5) (.cst (.int 1))) (.cons (.bi1 "len" (.idx (.var 3) (.cst (.int 0)))) .nil)))))) (.cons (.ret (.cst (.bl false)))
  .nil) .nil)
  (.cons (.asg (.many [6, 7]) (.var 5))
  (.cons (.ifs (.either (.nott (.call "_law_settles" (.cons (.var 7) (.cons (.var 4) .nil)))) (.nott (.call "_law_same" (.cons (.var 6) (.cons (.call "_law_deep" (.cons (.var 7) .nil)) .nil))))) (.cons (.ret (.cst (.bl false)))
  .nil) .nil)
  (.cons (.asg (.one 8) (.cst (.int 0)))
  (.cons (.fors (.one 9) (.of (.var 4)) (.cons (.asg (.one 10) (.call "walked" (.cons (.var 7) (.cons (.var 9) .nil))))
  (.cons (.asg (.one 8) (.bi2 "max" (.var 8) (.bi1 "len" (.var 10))))
  (.cons (.ifs (.cmp .ne (.call "_law_left" (.cons (.var 4) (.cons (.var 10) .nil))) (.lst (.cons (.var 9) .nil))) (.cons (.ret (.cst (.bl false)))
  .nil) .nil)
  .nil))))
  (.cons (.ifs (.either (.cmp .ne (.var 8) (.var 6)) (.cmp .ne (.cmp .eq (.var 6) (.cst (.int 0))) (.cmp .eq (.bi1 "len" (.var 4)) (.cst (.int 1))))) (.cons (.ret (.cst (.bl false)))
  .nil) .nil)
  .nil))))))) .nil)
  .nil))))
  (.cons (.ret (.cst (.bl true)))
  .nil)))⟩
def prog : Prog := [("narrowed", f_narrowed), ("is_box", f_is_box), ("tightened", f_tightened), ("tight", f_tight), ("looks_in", f_looks_in), ("answered", f_answered), ("Search.__init__", f_Search_init), ("Search.best", f_Search_best), ("Search.worst", f_Search_worst), ("Search.plan", f_Search_plan), ("least", f_least), ("walked", f_walked), ("_law_start", f__law_start), ("_law_drawn", f__law_drawn), ("_law_same", f__law_same), ("_law_box", f__law_box), ("_law_of", f__law_of), ("_law_longer", f__law_longer), ("_law_is_plan", f__law_is_plan), ("_law_deep", f__law_deep), ("_law_settles", f__law_settles), ("_law_left", f__law_left), ("law", f_law)]
end OI
/-! OIy: reckoning a run: rules for simp. -/
namespace OI.Y
open PySem (Str)
section
variable {R : Runs} {e : Env} {s : Store}
@[scoped simp] theorem bind_ok {α β : Type} (a : α) (e : Env) (s : Store) (f : α → Env → Store → Res β) : (Res.ok a e s).bind f = f a e s := Eq.trans rfl rfl
@[scoped simp] theorem bind_err {α β : Type} (k : String) (e : Env) (s : Store) (f : α → Env → Store → Res β) : (Res.err k e s).bind f = .err k e s := Eq.trans rfl rfl
@[scoped simp] theorem bind_bad {α β : Type} (f : α → Env → Store → Res β) : (Res.bad).bind f = .bad := Eq.trans rfl rfl
@[scoped simp] theorem ev_var (i : Nat) : ev R (.var i) e s = varK e[i]? i e s := Eq.trans rfl rfl
@[scoped simp] theorem ev_cst (d : D) : ev R (.cst d) e s = .ok (.val d, .tmp) e s := Eq.trans rfl rfl
@[scoped simp] theorem ev_bin (op : BOp) (a b : IE) : ev R (.bin op a b) e s = two (ev R a) (ev R b) (fun x y => out (bin op x y)) e s := Eq.trans rfl rfl
@[scoped simp] theorem ev_neg (a : IE) : ev R (.neg a) e s = one (ev R a) negK e s := Eq.trans rfl rfl
@[scoped simp] theorem ev_cmp (op : COp) (a b : IE) : ev R (.cmp op a b) e s = two (ev R a) (ev R b) (fun x y => outB (cmp op x y)) e s := Eq.trans rfl rfl
@[scoped simp] theorem ev_isN (n : Bool) (a : IE) : ev R (.isN n a) e s = one (ev R a) (isNK n) e s := Eq.trans rfl rfl
@[scoped simp] theorem ev_isB (n : Bool) (a : IE) (b : Bool) : ev R (.isB n a b) e s = one (ev R a) (isBK n b) e s := Eq.trans rfl rfl
@[scoped simp] theorem ev_both (a b : IE) : ev R (.both a b) e s = (testB (ev R a) e s).bind fun c => bothK c (ev R b) := Eq.trans rfl rfl
@[scoped simp] theorem ev_either (a b : IE) : ev R (.either a b) e s = (testB (ev R a) e s).bind fun c => eitherK c (ev R b) := Eq.trans rfl rfl
@[scoped simp] theorem ev_nott (a : IE) : ev R (.nott a) e s = (testB (ev R a) e s).bind fun c => okB (!c) := Eq.trans rfl rfl
@[scoped simp] theorem ev_ife (c a b : IE) : ev R (.ife c a b) e s = (testB (ev R c) e s).bind fun k => ifeK k (valM (ev R a)) (valM (ev R b)) := Eq.trans rfl rfl
@[scoped simp] theorem ev_tup (es : IEs) : ev R (.tup es) e s = (evs R es e s).bind fun ds => okV (.tup ds) := Eq.trans rfl rfl
@[scoped simp] theorem ev_lst (es : IEs) : ev R (.lst es) e s = (evs R es e s).bind lstK := Eq.trans rfl rfl
@[scoped simp] theorem ev_idx (a b : IE) : ev R (.idx a b) e s = two (ev R a) (ev R b) (fun x y => outD (index x y)) e s := Eq.trans rfl rfl
@[scoped simp] theorem ev_slc (a : IE) (lo hi : IO) : ev R (.slc a lo hi) e s = (ev R a e s).bind fun x e1 s1 => (evo R lo e1 s1).bind fun l e2 s2 => (evo R hi e2 s2).bind (slcK x s1 l) := Eq.trans rfl rfl
@[scoped simp] theorem ev_call (f : String) (es : IEs) : ev R (.call f es) e s = (evs R es e s).bind (callK R f) := Eq.trans rfl rfl
@[scoped simp] theorem ev_bi1 (f : String) (a : IE) : ev R (.bi1 f a) e s = one (ev R a) (fun x => out (bi1 f x)) e s := Eq.trans rfl rfl
@[scoped simp] theorem ev_bi2 (f : String) (a b : IE) : ev R (.bi2 f a b) e s = two (ev R a) (ev R b) (fun x y => out (bi2 f x y)) e s := Eq.trans rfl rfl
@[scoped simp] theorem ev_isi (a : IE) (o : Bool) (ts : List Ty) : ev R (.isi a o ts) e s = (ev R a e s).bind (isiK ts) := Eq.trans rfl rfl
@[scoped simp] theorem ev_lc (elt : IE) (tg : Tg) (it : It) (c : IO) (own : List Nat) : ev R (.lc elt tg it c own) e s = (evi R it e s).bind (lcK own tg (evc R c) (valD (ev R elt))) := Eq.trans rfl rfl
@[scoped simp] theorem ev_share (a : IE) : ev R (.share a) e s = (ev R a e s).bind shareK := Eq.trans rfl rfl
@[scoped simp] theorem evs_nil : evs R .nil e s = .ok [] e s := Eq.trans rfl rfl
@[scoped simp] theorem evs_cons (a : IE) (r : IEs) : evs R (.cons a r) e s = (valD (ev R a) e s).bind fun d e1 s1 => (evs R r e1 s1).bind fun ds e2 s2 => .ok (d :: ds) e2 s2 := Eq.trans rfl rfl
@[scoped simp] theorem evo_no : evo R .no e s = .ok none e s := Eq.trans rfl rfl
@[scoped simp] theorem evo_yes (a : IE) : evo R (.yes a) e s = (ev R a e s).bind partK := Eq.trans rfl rfl
@[scoped simp] theorem evc_no : evc R .no e s = .ok true e s := Eq.trans rfl rfl
@[scoped simp] theorem evc_yes (a : IE) : evc R (.yes a) e s = testB (ev R a) e s := Eq.trans rfl rfl
@[scoped simp] theorem evi_of (a : IE) : evi R (.of a) e s = (ev R a e s).bind itK := Eq.trans rfl rfl
@[scoped simp] theorem evi_rng1 (a : IE) : evi R (.rng1 a) e s = (ev R a e s).bind rng1K := Eq.trans rfl rfl
@[scoped simp] theorem evi_rng2 (a b : IE) : evi R (.rng2 a b) e s = two (ev R a) (ev R b) rng2K e s := Eq.trans rfl rfl
@[scoped simp] theorem two_def {α : Type} (a b : Env → Store → Res (M × Pl)) (k : M → M → Env → Store → Res α) : two a b k e s = (a e s).bind fun x e1 s1 => (b e1 s1).bind fun y e2 s2 =>
    if same (bw x.1 x.2 s1).2 s1 s2 then k (bw x.1 x.2 s1).1 (bw y.1 y.2 s2).1 e2 s2 else .bad := Eq.trans rfl rfl
@[scoped simp] theorem one_def {α : Type} (a : Env → Store → Res (M × Pl)) (k : M → Env → Store → Res α) : one a k e s = (a e s).bind fun x e1 s1 => k (bw x.1 x.2 s1).1 e1 s1 := Eq.trans rfl rfl
@[scoped simp] theorem valD_def (a : Env → Store → Res (M × Pl)) : valD a e s = (a e s).bind fun x e1 s1 => (vl x.1 x.2 e1 s1).bind fun m e2 s2 => .ok m.frz e2 s2 := Eq.trans rfl rfl
@[scoped simp] theorem valM_def (a : Env → Store → Res (M × Pl)) : valM a e s = (a e s).bind fun x e1 s1 => vl x.1 x.2 e1 s1 := Eq.trans rfl rfl
@[scoped simp] theorem testB_def (a : Env → Store → Res (M × Pl)) : testB a e s = (a e s).bind fun x e1 s1 => getB x.1 e1 s1 := Eq.trans rfl rfl
@[scoped simp] theorem testS_def (a : Env → Store → Res (M × Pl)) : testS a e s = (testB a e s).bind fun k e1 s1 => .ok k (if s1 = s then e else e1) s1 := Eq.trans rfl rfl
@[scoped simp] theorem varK_some (m : M) (i : Nat) : varK (some (some m)) i e s = .ok (m, .slot i) e s := Eq.trans rfl rfl
@[scoped simp] theorem bw_int (i : Int) (p : Pl) : bw (.val (.int i)) p s = (.val (.int i), none) := Eq.trans rfl rfl
@[scoped simp] theorem bw_bl (i : Bool) (p : Pl) : bw (.val (.bl i)) p s = (.val (.bl i), none) := Eq.trans rfl rfl
@[scoped simp] theorem bw_str (i : Str) (p : Pl) : bw (.val (.str i)) p s = (.val (.str i), none) := Eq.trans rfl rfl
@[scoped simp] theorem bw_non (p : Pl) : bw (.val .non) p s = (.val .non, none) := Eq.trans rfl rfl
@[scoped simp] theorem bw_tup (xs : List D) (p : Pl) : bw (.val (.tup xs)) p s = (.val (.tup xs), none) := Eq.trans rfl rfl
@[scoped simp] theorem bw_lst (xs : List D) (p : Pl) : bw (.val (.lst xs)) p s = (.val (.lst xs), none) := Eq.trans rfl rfl
@[scoped simp] theorem bw_dic (t : Bool) (xs : List (D × D)) (p : Pl) : bw (.val (.dic t xs)) p s = (.val (.dic t xs), none) := Eq.trans rfl rfl
@[scoped simp] theorem bw_scr (xs : List Int) (p : Pl) : bw (.val (.scr xs)) p s = (.val (.scr xs), none) := Eq.trans rfl rfl
@[scoped simp] theorem bw_ol (xs : List D) (p : Pl) : bw (.ol xs) p s = (.ol xs, p.src) := Eq.trans rfl rfl
@[scoped simp] theorem bw_od (t : Bool) (xs : List (D × D)) (p : Pl) : bw (.od t xs) p s = (.od t xs, p.src) := Eq.trans rfl rfl
def bwK (o : Option Ent) (n : Nat) : M × Option Nat :=
  match o with
  | some ⟨.lst xs, _⟩ => (.ol xs, some n)
  | some ⟨.dic t kvs, _⟩ => (.od t kvs, some n)
  | _ => (.val (.loc n), none)
@[scoped simp] theorem bw_loc (n : Nat) (p : Pl) : bw (.val (.loc n)) p s = bwK s[n]? n := by
  unfold bw bwK
  dsimp only
  all_goals (split <;> simp_all)
@[scoped simp] theorem bwK_lst (xs : List D) (v n : Nat) : bwK (some ⟨.lst xs, v⟩) n = (.ol xs, some n) := Eq.trans rfl rfl
@[scoped simp] theorem bwK_dic (t : Bool) (xs : List (D × D)) (v n : Nat) : bwK (some ⟨.dic t xs, v⟩) n = (.od t xs, some n) := Eq.trans rfl rfl
@[scoped simp] theorem bwK_ins (k : String) (fs : List (String × M)) (v n : Nat) : bwK (some ⟨.ins k fs, v⟩) n = (.val (.loc n), none) := Eq.trans rfl rfl
@[scoped simp] theorem src_slot (i : Nat) : Pl.src (.slot i) = none := Eq.trans rfl rfl
@[scoped simp] theorem src_tmp : Pl.src .tmp = none := Eq.trans rfl rfl
@[scoped simp] theorem src_oth : Pl.src .oth = none := Eq.trans rfl rfl
@[scoped simp] theorem same_none (s s' : Store) : same none s s' = true := Eq.trans rfl rfl
@[scoped simp] theorem same_self (o : Option Nat) (s : Store) : same o s s = true := by
  cases o with
  | none => rfl
  | some n => exact decide_eq_true rfl
@[scoped simp] theorem out_some (m : M) : out (some m) e s = .ok (m, .tmp) e s := Eq.trans rfl rfl
@[scoped simp] theorem outB_some (b : Bool) : outB (some b) e s = .ok (.val (.bl b), .tmp) e s := Eq.trans rfl rfl
@[scoped simp] theorem outD_some (d : D) : outD (some d) e s = .ok (.val d, .tmp) e s := Eq.trans rfl rfl
@[scoped simp] theorem okV_def (d : D) : okV d e s = .ok (.val d, .tmp) e s := Eq.trans rfl rfl
@[scoped simp] theorem okB_def (d : Bool) : okB d e s = .ok (.val (.bl d), .tmp) e s := Eq.trans rfl rfl
@[scoped simp] theorem vl_val (d : D) (p : Pl) : vl (.val d) p e s = .ok (.val d) e s := Eq.trans rfl rfl
@[scoped simp] theorem vl_tmp (m : M) : vl m .tmp e s = .ok m e s := by cases m <;> rfl
@[scoped simp] theorem vl_ol (xs : List D) (i : Nat) : vl (.ol xs) (.slot i) e s = .ok (.val (.lst xs)) (e.set i (some (.val (.lst xs)))) s := Eq.trans rfl rfl
@[scoped simp] theorem frz_val (d : D) : M.frz (.val d) = d := Eq.trans rfl rfl
@[scoped simp] theorem frz_ol (d : List D) : M.frz (.ol d) = .lst d := Eq.trans rfl rfl
@[scoped simp] theorem getB_bl (b : Bool) : getB (.val (.bl b)) e s = .ok b e s := Eq.trans rfl rfl
@[scoped simp] theorem negK_int (i : Int) : negK (.val (.int i)) e s = .ok (.val (.int (-i)), .tmp) e s := Eq.trans rfl rfl
@[scoped simp] theorem isNK_def (n : Bool) (x : M) : isNK n x e s = .ok (.val (.bl (if n then !decide (x = .val .non) else decide (x = .val .non))), .tmp) e s := Eq.trans rfl rfl
@[scoped simp] theorem bothK_t (k : Env → Store → Res (M × Pl)) : bothK true k e s = k e s := Eq.trans rfl rfl
@[scoped simp] theorem bothK_f (k : Env → Store → Res (M × Pl)) : bothK false k e s = .ok (.val (.bl false), .tmp) e s := Eq.trans rfl rfl
@[scoped simp] theorem eitherK_t (k : Env → Store → Res (M × Pl)) : eitherK true k e s = .ok (.val (.bl true), .tmp) e s := Eq.trans rfl rfl
@[scoped simp] theorem eitherK_f (k : Env → Store → Res (M × Pl)) : eitherK false k e s = k e s := Eq.trans rfl rfl
@[scoped simp] theorem ifeK_t (a b : Env → Store → Res M) : ifeK true a b e s = (a e s).bind fun m e s => .ok (m, .tmp) e s := Eq.trans rfl rfl
@[scoped simp] theorem ifeK_f (a b : Env → Store → Res M) : ifeK false a b e s = (b e s).bind fun m e s => .ok (m, .tmp) e s := Eq.trans rfl rfl
@[scoped simp] theorem lstK_def (ds : List D) : lstK ds e s = .ok (.ol ds, .tmp) e s := Eq.trans rfl rfl
@[scoped simp] theorem partK_int (i : Int) (p : Pl) : partK (.val (.int i), p) e s = .ok (some i) e s := Eq.trans rfl rfl
@[scoped simp] theorem slcK_def (x : M × Pl) (s1 : Store) (l h : Option Int) : slcK x s1 l h e s = if same (bw x.1 x.2 s1).2 s1 s then out (slice (bw x.1 x.2 s1).1 l h) e s else .bad := Eq.trans rfl rfl
@[scoped simp] theorem isiK_def (ts : List Ty) (x : M × Pl) : isiK ts x e s = outB (tyAny s x.1.frz ts) e s := Eq.trans rfl rfl
theorem callK_ok {f : String} {ds : List D} {m : M} {s' : Store} (h : R f ds s = .ok m s') : callK R f ds e s = .ok (m, .tmp) e s' := by
  unfold callK
  rw [h]
  rfl
@[scoped simp] theorem callK_def (f : String) (ds : List D) : callK R f ds e s = outM (ofRR (R f ds s) e) := Eq.trans rfl rfl
@[scoped simp] theorem ofRR_ok (m : M) (s' : Store) : ofRR (.ok m s') e = .ok m e s' := Eq.trans rfl rfl
@[scoped simp] theorem ofRR_err (c : String) (s' : Store) : ofRR (.err c s') e = .err c e s' := Eq.trans rfl rfl
@[scoped simp] theorem outM_ok (m : M) : outM (.ok m e s) = .ok (m, .tmp) e s := Eq.trans rfl rfl
@[scoped simp] theorem outM_err (c : String) : outM (.err c e s) = .err c e s := Eq.trans rfl rfl
@[scoped simp] theorem share_ol (xs : List D) : shareK (.ol xs, .tmp) e s = .ok (.val (.loc s.length), .tmp) e (s ++ [⟨.lst xs, 0⟩]) := Eq.trans rfl rfl
@[scoped simp] theorem share_od (t : Bool) (xs : List (D × D)) : shareK (.od t xs, .tmp) e s = .ok (.val (.loc s.length), .tmp) e (s ++ [⟨.dic t xs, 0⟩]) := Eq.trans rfl rfl
theorem getI_ok' {i : Int} (h1 : -(2 ^ 62) ≤ i) (h2 : i < 2 ^ 62) : getI (.val (.int i)) e s = .ok i e s := if_pos ⟨h1, h2⟩
def tyStep (o r : Option Bool) : Option Bool :=
  match o with
  | some true => some true
  | some false => r
  | none => none
@[scoped simp] theorem tyStep_t (r : Option Bool) : tyStep (some true) r = some true := Eq.trans rfl rfl
@[scoped simp] theorem tyStep_f (r : Option Bool) : tyStep (some false) r = r := Eq.trans rfl rfl
@[scoped simp] theorem tyAny_nil (s : Store) (d : D) : tyAny s d [] = some false := Eq.trans rfl rfl
@[scoped simp] theorem tyAny_cons (s : Store) (d : D) (t : Ty) (ts : List Ty) : tyAny s d (t :: ts) = tyStep (tyIs s d t) (tyAny s d ts) := by
  show (match tyIs s d t with | some true => some true | some false => tyAny s d ts | none => none) = _
  unfold tyStep
  rfl
@[scoped simp] theorem tyIs_non_tup (s : Store)  : tyIs s (.non ) .tup = some false := Eq.trans rfl rfl
@[scoped simp] theorem tyIs_non_lst (s : Store)  : tyIs s (.non ) .lst = some false := Eq.trans rfl rfl
@[scoped simp] theorem tyIs_non_str (s : Store)  : tyIs s (.non ) .str = some false := Eq.trans rfl rfl
@[scoped simp] theorem tyIs_non_bl (s : Store)  : tyIs s (.non ) .bl = some false := Eq.trans rfl rfl
@[scoped simp] theorem tyIs_non_int (s : Store)  : tyIs s (.non ) .int = some false := Eq.trans rfl rfl
@[scoped simp] theorem tyIs_bl_tup (s : Store) (b : Bool) : tyIs s (.bl b) .tup = some false := Eq.trans rfl rfl
@[scoped simp] theorem tyIs_bl_lst (s : Store) (b : Bool) : tyIs s (.bl b) .lst = some false := Eq.trans rfl rfl
@[scoped simp] theorem tyIs_bl_str (s : Store) (b : Bool) : tyIs s (.bl b) .str = some false := Eq.trans rfl rfl
@[scoped simp] theorem tyIs_bl_bl (s : Store) (b : Bool) : tyIs s (.bl b) .bl = some true := Eq.trans rfl rfl
@[scoped simp] theorem tyIs_bl_int (s : Store) (b : Bool) : tyIs s (.bl b) .int = some true := Eq.trans rfl rfl
@[scoped simp] theorem tyIs_int_tup (s : Store) (b : Int) : tyIs s (.int b) .tup = some false := Eq.trans rfl rfl
@[scoped simp] theorem tyIs_int_lst (s : Store) (b : Int) : tyIs s (.int b) .lst = some false := Eq.trans rfl rfl
@[scoped simp] theorem tyIs_int_str (s : Store) (b : Int) : tyIs s (.int b) .str = some false := Eq.trans rfl rfl
@[scoped simp] theorem tyIs_int_bl (s : Store) (b : Int) : tyIs s (.int b) .bl = some false := Eq.trans rfl rfl
@[scoped simp] theorem tyIs_int_int (s : Store) (b : Int) : tyIs s (.int b) .int = some true := Eq.trans rfl rfl
@[scoped simp] theorem tyIs_str_tup (s : Store) (b : Str) : tyIs s (.str b) .tup = some false := Eq.trans rfl rfl
@[scoped simp] theorem tyIs_str_lst (s : Store) (b : Str) : tyIs s (.str b) .lst = some false := Eq.trans rfl rfl
@[scoped simp] theorem tyIs_str_str (s : Store) (b : Str) : tyIs s (.str b) .str = some true := Eq.trans rfl rfl
@[scoped simp] theorem tyIs_str_bl (s : Store) (b : Str) : tyIs s (.str b) .bl = some false := Eq.trans rfl rfl
@[scoped simp] theorem tyIs_str_int (s : Store) (b : Str) : tyIs s (.str b) .int = some false := Eq.trans rfl rfl
@[scoped simp] theorem tyIs_tup_tup (s : Store) (b : List D) : tyIs s (.tup b) .tup = some true := Eq.trans rfl rfl
@[scoped simp] theorem tyIs_tup_lst (s : Store) (b : List D) : tyIs s (.tup b) .lst = some false := Eq.trans rfl rfl
@[scoped simp] theorem tyIs_tup_str (s : Store) (b : List D) : tyIs s (.tup b) .str = some false := Eq.trans rfl rfl
@[scoped simp] theorem tyIs_tup_bl (s : Store) (b : List D) : tyIs s (.tup b) .bl = some false := Eq.trans rfl rfl
@[scoped simp] theorem tyIs_tup_int (s : Store) (b : List D) : tyIs s (.tup b) .int = some false := Eq.trans rfl rfl
@[scoped simp] theorem tyIs_lst_tup (s : Store) (b : List D) : tyIs s (.lst b) .tup = some false := Eq.trans rfl rfl
@[scoped simp] theorem tyIs_lst_lst (s : Store) (b : List D) : tyIs s (.lst b) .lst = some true := Eq.trans rfl rfl
@[scoped simp] theorem tyIs_lst_str (s : Store) (b : List D) : tyIs s (.lst b) .str = some false := Eq.trans rfl rfl
@[scoped simp] theorem tyIs_lst_bl (s : Store) (b : List D) : tyIs s (.lst b) .bl = some false := Eq.trans rfl rfl
@[scoped simp] theorem tyIs_lst_int (s : Store) (b : List D) : tyIs s (.lst b) .int = some false := Eq.trans rfl rfl
theorem getI_len {n : Nat} (h : n ≤ LIM) : getI (.val (.int n)) e s = .ok (n : Int) e s := by
  have h2 : n ≤ 16777216 := h
  exact getI_ok' (by omega) (by omega)
@[scoped simp] theorem rng1_int (i : Int) (p : Pl) : rng1K (.val (.int i), p) e s = (getI (.val (.int i)) e s).bind fun j e s => .ok (rng 0 j, []) e s := Eq.trans rfl rfl
/-! the operators at plain values -/
@[scoped simp] theorem bin_addI (i j : Int) : bin .add (.val (.int i)) (.val (.int j)) = some (.val (.int (i + j))) := Eq.trans rfl rfl
@[scoped simp] theorem bin_subI (i j : Int) : bin .sub (.val (.int i)) (.val (.int j)) = some (.val (.int (i - j))) := Eq.trans rfl rfl
theorem bin_mulI {i j : Int} (h : (-(2 ^ 64) < i ∧ i < 2 ^ 64) ∨ (-(2 ^ 64) < j ∧ j < 2 ^ 64)) : bin .mul (.val (.int i)) (.val (.int j)) = some (.val (.int (i * j))) := if_pos h
theorem bin_mulR {i j : Int} (h1 : -(2 ^ 64) < j) (h2 : j < 2 ^ 64) : bin .mul (.val (.int i)) (.val (.int j)) = some (.val (.int (i * j))) := if_pos (.inr ⟨h1, h2⟩)
theorem bin_modI {i j : Int} (h : 0 < j) : bin .mod (.val (.int i)) (.val (.int j)) = some (.val (.int (i % j))) := by
  show ((if 0 < j then some (i % j) else none).map fun k => M.val (.int k)) = _
  rw [if_pos h]
  rfl
theorem bin_fdivI {i j : Int} (h : 0 < j) (h2 : j < 2 ^ 200) : bin .fdiv (.val (.int i)) (.val (.int j)) = some (.val (.int (i / j))) := by
  have h3 : j.natAbs.log2 < 9000 := by
    have h4 : j.natAbs < 2 ^ 200 := by omega
    have h5 : j.natAbs.log2 < 200 := (Nat.log2_lt (by omega)).mpr h4
    omega
  show ((if 0 < j ∧ j.natAbs.log2 < 9000 then some (i / j) else none).map fun k => M.val (.int k)) = _
  rw [if_pos ⟨h, h3⟩]
  rfl
theorem bin_powI {i j : Int} (h : 0 ≤ j ∧ j ≤ 1000000 ∧ i.natAbs < 2 ^ 64) : bin .pow (.val (.int i)) (.val (.int j)) = some (.val (.int (i ^ j.toNat))) := by
  show ((if 0 ≤ j ∧ j ≤ 1000000 ∧ i.natAbs < 2 ^ 64 then some (i ^ j.toNat) else none).map fun k => M.val (.int k)) = _
  rw [if_pos h]
  rfl
theorem bin_addT {xs ys : List D} (h : xs.length + ys.length ≤ LIM) : bin .add (.val (.tup xs)) (.val (.tup ys)) = some (.val (.tup (xs ++ ys))) := if_pos h
theorem bin_addL {a b : M} {xs ys : List D} (ha : a.lst1? = some xs) (hb : b.lst1? = some ys) (h : xs.length + ys.length ≤ LIM) : bin .add a b = some (.ol (xs ++ ys)) := by
  show addM a b = _
  unfold addM
  split
  · cases ha
  · cases ha
  · cases ha
  · rw [ha, hb]
    exact if_pos h
@[scoped simp] theorem cmp_ltI (i j : Int) : cmp .lt (.val (.int i)) (.val (.int j)) = some (decide (i < j)) := Eq.trans rfl rfl
@[scoped simp] theorem cmp_leI (i j : Int) : cmp .le (.val (.int i)) (.val (.int j)) = some (decide (i ≤ j)) := Eq.trans rfl rfl
@[scoped simp] theorem cmp_gtI (i j : Int) : cmp .gt (.val (.int i)) (.val (.int j)) = some (decide (j < i)) := Eq.trans rfl rfl
@[scoped simp] theorem cmp_geI (i j : Int) : cmp .ge (.val (.int i)) (.val (.int j)) = some (decide (j ≤ i)) := Eq.trans rfl rfl
@[scoped simp] theorem cmp_eqI (i j : Int) : cmp .eq (.val (.int i)) (.val (.int j)) = some (decide (i = j)) := by
  show some (i == j) = _
  rw [Bool.beq_eq_decide_eq]
@[scoped simp] theorem cmp_neI (i j : Int) : cmp .ne (.val (.int i)) (.val (.int j)) = some (!decide (i = j)) := by
  show some (!(i == j)) = _
  rw [Bool.beq_eq_decide_eq]
@[scoped simp] theorem cmp_eqB (i j : Bool) : cmp .eq (.val (.bl i)) (.val (.bl j)) = some (decide (i = j)) := by cases i <;> cases j <;> rfl
@[scoped simp] theorem cmp_neB (i j : Bool) : cmp .ne (.val (.bl i)) (.val (.bl j)) = some (!decide (i = j)) := by cases i <;> cases j <;> rfl
@[scoped simp] theorem cmp_eqS (i j : Str) : cmp .eq (.val (.str i)) (.val (.str j)) = some (decide (i = j)) := Eq.trans rfl rfl
@[scoped simp] theorem cmp_neS (i j : Str) : cmp .ne (.val (.str i)) (.val (.str j)) = some (!decide (i = j)) := Eq.trans rfl rfl
@[scoped simp] theorem cmp_eqL0 : cmp .eq (.ol []) (.ol []) = some true := Eq.trans rfl rfl
@[scoped simp] theorem lst1_ol (xs : List D) : M.lst1? (.ol xs) = some xs := Eq.trans rfl rfl
@[scoped simp] theorem lst1_lst (xs : List D) : M.lst1? (.val (.lst xs)) = some xs := Eq.trans rfl rfl
@[scoped simp] theorem index_ol (xs : List D) (i : Int) : index (.ol xs) (.val (.int i)) = L2.atI xs i := Eq.trans rfl rfl
@[scoped simp] theorem index_lst (xs : List D) (i : Int) : index (.val (.lst xs)) (.val (.int i)) = L2.atI xs i := Eq.trans rfl rfl
@[scoped simp] theorem index_tup (xs : List D) (i : Int) : index (.val (.tup xs)) (.val (.int i)) = L2.atI xs i := Eq.trans rfl rfl
@[scoped simp] theorem index_scr (xs : List Int) (i : Int) : index (.val (.scr xs)) (.val (.int i)) = L2.atI (xs.map .int) i := Eq.trans rfl rfl
theorem atI_at {α : Type} {xs : List α} {i : Int} {k : Nat} (h : i = (k : Int)) (hk : k < xs.length) : L2.atI xs i = xs[k]? := by
  subst h
  unfold L2.atI L2.ixN
  rw [if_pos (Int.natCast_nonneg k), if_pos (by exact_mod_cast hk)]
  rfl
@[scoped simp] theorem atI_c0 {α : Type} (a0 : α) (r : List α) : L2.atI (a0 :: r) 0 = some a0 := (atI_at (i := 0) (k := 0) rfl (by simp only [List.length_cons]; omega)).trans rfl
@[scoped simp] theorem atI_c1 {α : Type} (a0 a1 : α) (r : List α) : L2.atI (a0 :: a1 :: r) 1 = some a1 := (atI_at (i := 1) (k := 1) rfl (by simp only [List.length_cons]; omega)).trans rfl
@[scoped simp] theorem atI_c2 {α : Type} (a0 a1 a2 : α) (r : List α) : L2.atI (a0 :: a1 :: a2 :: r) 2 = some a2 := (atI_at (i := 2) (k := 2) rfl (by simp only [List.length_cons]; omega)).trans rfl
@[scoped simp] theorem atI_c3 {α : Type} (a0 a1 a2 a3 : α) (r : List α) : L2.atI (a0 :: a1 :: a2 :: a3 :: r) 3 = some a3 := (atI_at (i := 3) (k := 3) rfl (by simp only [List.length_cons]; omega)).trans rfl
@[scoped simp] theorem atI_c4 {α : Type} (a0 a1 a2 a3 a4 : α) (r : List α) : L2.atI (a0 :: a1 :: a2 :: a3 :: a4 :: r) 4 = some a4 := (atI_at (i := 4) (k := 4) rfl (by simp only [List.length_cons]; omega)).trans rfl
@[scoped simp] theorem atI_c5 {α : Type} (a0 a1 a2 a3 a4 a5 : α) (r : List α) : L2.atI (a0 :: a1 :: a2 :: a3 :: a4 :: a5 :: r) 5 = some a5 := (atI_at (i := 5) (k := 5) rfl (by simp only [List.length_cons]; omega)).trans rfl
@[scoped simp] theorem atI_c6 {α : Type} (a0 a1 a2 a3 a4 a5 a6 : α) (r : List α) : L2.atI (a0 :: a1 :: a2 :: a3 :: a4 :: a5 :: a6 :: r) 6 = some a6 := (atI_at (i := 6) (k := 6) rfl (by simp only [List.length_cons]; omega)).trans rfl
@[scoped simp] theorem atI_c7 {α : Type} (a0 a1 a2 a3 a4 a5 a6 a7 : α) (r : List α) : L2.atI (a0 :: a1 :: a2 :: a3 :: a4 :: a5 :: a6 :: a7 :: r) 7 = some a7 := (atI_at (i := 7) (k := 7) rfl (by simp only [List.length_cons]; omega)).trans rfl
@[scoped simp] theorem atI_c8 {α : Type} (a0 a1 a2 a3 a4 a5 a6 a7 a8 : α) (r : List α) : L2.atI (a0 :: a1 :: a2 :: a3 :: a4 :: a5 :: a6 :: a7 :: a8 :: r) 8 = some a8 := (atI_at (i := 8) (k := 8) rfl (by simp only [List.length_cons]; omega)).trans rfl
@[scoped simp] theorem len_ol (xs : List D) : bi1 "len" (.ol xs) = some (.val (.int xs.length)) := Eq.trans rfl rfl
@[scoped simp] theorem len_lst' (xs : List D) : bi1 "len" (.val (.lst xs)) = some (.val (.int xs.length)) := Eq.trans rfl rfl
@[scoped simp] theorem len_tup (xs : List D) : bi1 "len" (.val (.tup xs)) = some (.val (.int xs.length)) := Eq.trans rfl rfl
@[scoped simp] theorem len_scr (xs : List Int) : bi1 "len" (.val (.scr xs)) = some (.val (.int xs.length)) := by
  show some (M.val (.int ((xs.map D.int).length : Nat))) = _
  rw [List.length_map]
@[scoped simp] theorem tuple_ol (xs : List D) : bi1 "tuple" (.ol xs) = some (.val (.tup xs)) := Eq.trans rfl rfl
@[scoped simp] theorem tuple_lst (xs : List D) : bi1 "tuple" (.val (.lst xs)) = some (.val (.tup xs)) := Eq.trans rfl rfl
@[scoped simp] theorem int_bl (b : Bool) : bi1 "int" (.val (.bl b)) = some (.val (.int (if b then 1 else 0))) := Eq.trans rfl rfl
end

/-! ### statements -/
section
variable {R : Runs} {W : Nat} {e : Env} {s : Store}
@[scoped simp] theorem ex_nil : execs R W .nil e s = .ok .nx e s := Eq.trans rfl rfl
@[scoped simp] theorem ex_cons (a : IS) (r : ISs) : execs R W (.cons a r) e s = (exec R W a e s).bind fun f e s => match f with
    | .nx => execs R W r e s
    | .ret m => .ok (.ret m) e s := Eq.trans rfl rfl
@[scoped simp] theorem ex_asg (t : Tg) (a : IE) : exec R W (.asg t a) e s = (valM (ev R a) e s).bind fun m e1 s1 => match store t m (keep m e e1 s s1) with
    | some e2 => .ok .nx e2 s1
    | none => .bad := Eq.trans rfl rfl
@[scoped simp] theorem ex_ret (a : IE) : exec R W (.ret a) e s = (ev R a e s).bind fun x e1 s1 => moved x e1 s1 := Eq.trans rfl rfl
@[scoped simp] theorem ex_ifs (c : IE) (a b : ISs) : exec R W (.ifs c a b) e s = (testS (ev R c) e s).bind fun k e1 s1 => if k then execs R W a e1 s1 else execs R W b e1 s1 := Eq.trans rfl rfl
@[scoped simp] theorem ex_expr (a : IE) : exec R W (.expr a) e s = (valM (ev R a) e s).bind fun _ e1 s1 => .ok .nx (if s1 = s then e else e1) s1 := Eq.trans rfl rfl
@[scoped simp] theorem ex_setI (o i a : IE) : exec R W (.setI o i a) e s = (valD (ev R a) e s).bind fun d e1 s1 => (ev R o e1 s1).bind fun x e2 s2 => (valD (ev R i) e2 s2).bind fun k e3 s3 => atK o.slot? x s2 (fun m => setItem m k d) e3 s3 := Eq.trans rfl rfl
@[scoped simp] theorem ex_mut0 (f : String) (o : IE) : exec R W (.mut0 f o) e s = (ev R o e s).bind fun x e1 s1 => mut0K f o.slot? x e1 s1 := Eq.trans rfl rfl
@[scoped simp] theorem ex_mut1 (f : String) (o a : IE) : exec R W (.mut1 f o a) e s = (ev R o e s).bind fun x e1 s1 => mut1K f o.slot? (valD (ev R a)) x e1 s1 := Eq.trans rfl rfl
@[scoped simp] theorem ex_fors (tg : Tg) (it : It) (b : ISs) : exec R W (.fors tg it b) e s = (evi R it e s).bind fun x e1 s1 => if apart x.2 (tg.slots ++ wrs b) then forL x.2 s1 tg (execs R W b) x.1 e1 s1 else .bad := Eq.trans rfl rfl
@[scoped simp] theorem ex_whil (c : IE) (b : ISs) : exec R W (.whil c b) e s = whileL (testS (ev R c)) (execs R W b) W e s := Eq.trans rfl rfl
@[scoped simp] theorem forL_nil (src : List Src) (s0 : Store) (tg : Tg) (b : Env → Store → Res Flow) : forL src s0 tg b [] e s = if still src s0 s then .ok .nx e s else .bad := Eq.trans rfl rfl
theorem forL_cons (src : List Src) (s0 : Store) (tg : Tg) (b : Env → Store → Res Flow) (x : D) (xs : List D) : forL src s0 tg b (x :: xs) e s = if still src s0 s then (match store tg (.val x) e with
    | none => .bad
    | some e => (b e s).bind fun f e s => match f with
      | .nx => forL src s0 tg b xs e s
      | .ret m => .ok (.ret m) e s) else .bad := Eq.trans rfl rfl
@[scoped simp] theorem still_nil (s s' : Store) : still [] s s' = true := Eq.trans rfl rfl
@[scoped simp] theorem still_slot (i : Nat) (ws : List Src) (s s' : Store) : still (.slot i :: ws) s s' = still ws s s' := Eq.trans rfl rfl
theorem still_ent (i : Nat) (ws : List Src) (s s' : Store) : still (.ent i :: ws) s s' = (decide (s[i]? = s'[i]?) && still ws s s') := rfl
@[scoped simp] theorem still_self (ws : List Src) (s : Store) : still ws s s = true := by
  unfold still
  rw [List.all_eq_true]
  intro w _
  cases w with
  | ent n => exact decide_eq_true rfl
  | slot i => rfl
@[scoped simp] theorem apart_nil (l : List Nat) : apart [] l = true := Eq.trans rfl rfl
@[scoped simp] theorem quiet_ok' {α : Type} (a : α) : quiet (.ok a e s) = .ok a e s := Eq.trans rfl rfl
/-- a comprehension that takes nothing -/
theorem lc_none {src : List Src} {s0 : Store} {own : List Nat} {tg : Tg} {test : Env → Store → Res Bool} {elt : Env → Store → Res D} (hs : still src s0 s = true) : ∀ {l : List D} (acc : List D), (∀ x ∈ l, ∃ e1 e2, store tg (.val x) e = some e1 ∧ test e1 s = .ok false e2 s ∧ wipe e2 own = e) → lcL src s0 own tg test elt l acc e s = .ok acc e s
  | [], acc, _ => if_pos hs
  | x :: l, acc, h => by
    obtain ⟨e1, e2, h1, h2, h3⟩ := h x (List.mem_cons_self ..)
    unfold lcL
    rw [if_pos hs, h1]
    dsimp only
    rw [h2]
    simp only [quiet_ok', bind_ok, Bool.false_eq_true, if_false]
    rw [h3]
    exact lc_none hs acc fun y hy => h y (List.mem_cons_of_mem _ hy)
/-- a comprehension that takes all -/
theorem lc_all {src : List Src} {s0 : Store} {own : List Nat} {tg : Tg} {test : Env → Store → Res Bool} {elt : Env → Store → Res D} {g : D → D} (hs : still src s0 s = true) : ∀ {l : List D} (acc : List D), (∀ x ∈ l, ∃ e1 e2 e3, store tg (.val x) e = some e1 ∧ test e1 s = .ok true e2 s ∧ elt e2 s = .ok (g x) e3 s ∧ wipe e3 own = e) → lcL src s0 own tg test elt l acc e s = .ok (acc ++ l.map g) e s
  | [], acc, _ => by
    rw [List.map_nil, List.append_nil]
    exact if_pos hs
  | x :: l, acc, h => by
    obtain ⟨e1, e2, e3, h1, h2, h3, h4⟩ := h x (List.mem_cons_self ..)
    unfold lcL
    rw [if_pos hs, h1]
    dsimp only
    rw [h2]
    simp only [quiet_ok', bind_ok, if_true]
    rw [h3]
    simp only [quiet_ok', bind_ok]
    rw [h4, lc_all hs (acc ++ [g x]) fun y hy => h y (List.mem_cons_of_mem _ hy), List.map_cons, List.append_assoc]
    rfl
@[scoped simp] theorem moved_val (d : D) (p : Pl) : moved (.val d, p) e s = .ok (.ret (.val d)) e s := Eq.trans rfl rfl
@[scoped simp] theorem moved_tmp (m : M) : moved (m, .tmp) e s = .ok (.ret m) e s := by cases m <;> rfl
@[scoped simp] theorem moved_slot (m : M) (i : Nat) : moved (m, .slot i) e s = .ok (.ret m) e s := by cases m <;> rfl
@[scoped simp] theorem store_one {i : Nat} {m : M} : store (.one i) m e = if i < e.length then some (e.set i (some m)) else none := Eq.trans rfl rfl
@[scoped simp] theorem store_many {is : List Nat} {ds : List D} : store (.many is) (.val (.tup ds)) e = setNames is ds e := Eq.trans rfl rfl
@[scoped simp] theorem setNames_nil : setNames [] [] e = some e := Eq.trans rfl rfl
@[scoped simp] theorem setNames_cons (i : Nat) (is : List Nat) (d : D) (ds : List D) : setNames (i :: is) (d :: ds) e = if i < e.length then setNames is ds (e.set i (some (.val d))) else none := Eq.trans rfl rfl
@[scoped simp] theorem keep_same (m : M) (s0 s1 : Store) : keep m e e s0 s1 = e := by unfold keep; split <;> rfl
@[scoped simp] theorem keep_tup (xs : List D) (e1 : Env) (s0 s1 : Store) : keep (.val (.tup xs)) e e1 s0 s1 = e1 := if_neg fun h => nomatch h.1
@[scoped simp] theorem keep_lst (xs : List D) (e1 : Env) (s0 s1 : Store) : keep (.val (.lst xs)) e e1 s0 s1 = e1 := if_neg fun h => nomatch h.1
@[scoped simp] theorem keep_ol (xs : List D) (e1 : Env) (s0 s1 : Store) : keep (.ol xs) e e1 s0 s1 = e1 := if_neg fun h => nomatch h.1
@[scoped simp] theorem keep_loc (n : Nat) (e1 : Env) (s0 s1 : Store) : keep (.val (.loc n)) e e1 s0 s1 = e1 := if_neg fun h => nomatch h.1
theorem gc_self (m : M) : gc s m s = s := by unfold gc; split <;> rfl
theorem run_eq {P : Prog} {n : Nat} {f : String} {fn : Fn} {ds : List D} (h : look P f = some fn) (h1 : ds.length = fn.np) (h2 : fn.np ≤ fn.ns) : run P W (n + 1) f ds s = fin s (execs (run P W n) W fn.body (begun fn ds) s) := by
  show (match look P f with
    | some fn => if ds.length = fn.np ∧ fn.np ≤ fn.ns then fin s (execs (run P W n) W fn.body (begun fn ds) s) else .bad
    | none => .bad) = _
  rw [h]
  exact if_pos ⟨h1, h2⟩
@[scoped simp] theorem fin_ret (m : M) (s0 : Store) : fin s0 (.ok (.ret m) e s) = .ok m (gc s0 m s) := Eq.trans rfl rfl
@[scoped simp] theorem fin_nx (s0 : Store) : fin s0 (.ok .nx e s) = .ok (.val .non) (gc s0 (.val .non) s) := Eq.trans rfl rfl
/-- an object of the store, changed -/
def atL (o : Option Ent) (n : Nat) (f : M → Option M) (e : Env) (s : Store) : Res Flow :=
  match o with
  | some ⟨.lst xs, v⟩ => match f (.ol xs) with
    | some (.ol ys) => .ok .nx e (s.set n ⟨.lst ys, v + 1⟩)
    | _ => .bad
  | some ⟨.dic t kvs, v⟩ => match f (.od t kvs) with
    | some (.od u ys) => .ok .nx e (s.set n ⟨.dic u ys, v + 1⟩)
    | _ => .bad
  | _ => .bad
@[scoped simp] theorem at_loc (n : Nat) (sl : List Nat) (p : Pl) (f : M → Option M) (s1 : Store) : atK sl (.val (.loc n), p) s1 f e s = atL s[n]? n f e s := by
  unfold atK hold atL
  dsimp only
  have h1 : same (Pl.fsrc (.obj n)) s1 s = true := rfl
  rw [if_pos h1]
  unfold curr
  cases h : s[n]? with
  | none => simp only [h]
  | some en =>
    obtain ⟨o, v⟩ := en
    cases o with
    | ins k fs => simp only [h]
    | lst xs =>
      simp only [h]
      unfold pushPl
      cases f (.ol xs) with
      | none => rfl
      | some m =>
        unfold put
        simp only [h]
        cases m <;> rfl
    | dic t xs =>
      simp only [h]
      unfold pushPl
      cases f (.od t xs) with
      | none => rfl
      | some m =>
        unfold put
        simp only [h]
        cases m <;> rfl
@[scoped simp] theorem atL_lst (xs : List D) (v n : Nat) (f : M → Option M) : atL (some ⟨.lst xs, v⟩) n f e s = match f (.ol xs) with
    | some (.ol ys) => .ok .nx e (s.set n ⟨.lst ys, v + 1⟩)
    | _ => .bad := Eq.trans rfl rfl
@[scoped simp] theorem atL_dic (t : Bool) (xs : List (D × D)) (v n : Nat) (f : M → Option M) : atL (some ⟨.dic t xs, v⟩) n f e s = match f (.od t xs) with
    | some (.od u ys) => .ok .nx e (s.set n ⟨.dic u ys, v + 1⟩)
    | _ => .bad := Eq.trans rfl rfl
@[scoped simp] theorem setItem_ol (xs : List D) (i : Int) (d : D) : setItem (.ol xs) (.int i) d = (L2.ixN xs.length i).map fun j => .ol (xs.set j d) := Eq.trans rfl rfl
theorem at_slot {i : Nat} {m0 m m' : M} {sl : List Nat} {f : M → Option M} {s1 : Store} (h0 : m0.isVal = false) (hi : i ∈ sl) (h : e[i]? = some (some m)) (hf : f m = some m') : atK sl (m0, .slot i) s1 f e s = .ok .nx (e.set i (some m')) s := by
  have hh : hold sl m0 (.slot i) = some (.slot i) := by
    cases m0 with
    | val d => cases h0
    | ol xs => exact if_pos hi
    | od t kvs => exact if_pos hi
  unfold atK
  dsimp only
  rw [hh]
  dsimp only
  have h1 : same (Pl.fsrc (.slot i)) s1 s = true := rfl
  rw [if_pos h1]
  unfold curr
  simp only [h]
  unfold pushPl
  rw [hf]
  rfl
/-- what a slot's container becomes -/
def atS (o : Option (Option M)) (i : Nat) (f : M → Option M) (e : Env) (s : Store) : Res Flow :=
  match o with
  | some (some m) => match f m with
    | some m' => .ok .nx (e.set i (some m')) s
    | none => .bad
  | _ => .bad
theorem at_slotL {xs : List D} {i : Nat} {sl : List Nat} {f : M → Option M} {s1 : Store} : atK sl (.ol xs, .slot i) s1 f e s = if i ∈ sl then atS e[i]? i f e s else .bad := by
  have hh : hold sl (.ol xs) (.slot i) = if i ∈ sl then some (.slot i) else none := rfl
  unfold atK
  dsimp only
  rw [hh]
  by_cases hi : i ∈ sl
  · rw [if_pos hi, if_pos hi]
    dsimp only
    have h1 : same (Pl.fsrc (.slot i)) s1 s = true := rfl
    rw [if_pos h1]
    unfold curr atS
    dsimp only
    cases h : e[i]? with
    | none => rfl
    | some o =>
      cases o with
      | none => rfl
      | some m =>
        dsimp only
        unfold pushPl
        cases f m <;> rfl
  · rw [if_neg hi, if_neg hi]
    exact if_neg fun z => nomatch z.1
@[scoped simp] theorem at_slot' {xs : List D} {i : Nat} {sl : List Nat} {f : M → Option M} {s1 : Store} : atK sl (.ol xs, .slot i) s1 f e s = if i ∈ sl then atS e[i]? i f e s else .bad := at_slotL
@[scoped simp] theorem atS_some (m : M) (i : Nat) (f : M → Option M) : atS (some (some m)) i f e s = match f m with
    | some m' => .ok .nx (e.set i (some m')) s
    | none => .bad := Eq.trans rfl rfl
@[scoped simp] theorem slot_var (i : Nat) : IE.slot? (.var i) = [i] := Eq.trans rfl rfl
@[scoped simp] theorem mut0K_def (f : String) (sl : List Nat) (x : M × Pl) : mut0K f sl x e s = atK sl x s (mutate0 f) e s := Eq.trans rfl rfl
@[scoped simp] theorem mut1K_def (f : String) (sl : List Nat) (a : Env → Store → Res D) (x : M × Pl) : mut1K f sl a x e s = if kindOk f (bw x.1 x.2 s).1 then (a e s).bind fun d e2 s2 => atK sl x s (fun m => mutate1 f m d) e2 s2 else .bad := Eq.trans rfl rfl
@[scoped simp] theorem kind_app (xs : List D) : kindOk "append" (.ol xs) = true := Eq.trans rfl rfl
@[scoped simp] theorem kind_ext (xs : List D) : kindOk "extend" (.ol xs) = true := Eq.trans rfl rfl
@[scoped simp] theorem mut_app (xs : List D) (d : D) : mutate1 "append" (.ol xs) d = if xs.length < LIM then some (.ol (xs ++ [d])) else none := Eq.trans rfl rfl
@[scoped simp] theorem mut_ext (xs ys : List D) : mutate1 "extend" (.ol xs) (.lst ys) = if xs.length + ys.length ≤ LIM then some (.ol (xs ++ ys)) else none := Eq.trans rfl rfl
@[scoped simp] theorem mut_clear (xs : List D) : mutate0 "clear" (.ol xs) = some (.ol []) := Eq.trans rfl rfl
@[scoped simp] theorem mut_rev (xs : List D) : mutate0 "reverse" (.ol xs) = some (.ol xs.reverse) := Eq.trans rfl rfl
/-- a walk by its invariant -/
theorem forL_inv {src : List Src} {s0 : Store} {tg : Tg} {body : Env → Store → Res Flow} {Inv : Env → Store → Prop} (hs : ∀ e s, Inv e s → still src s0 s = true) : ∀ {l : List D} {e : Env} {s : Store}, (∀ x ∈ l, ∀ e s, Inv e s → ∃ e1 e2 s2, store tg (.val x) e = some e1 ∧ body e1 s = .ok .nx e2 s2 ∧ Inv e2 s2) → Inv e s →
    ∃ e' s', forL src s0 tg body l e s = .ok .nx e' s' ∧ Inv e' s'
  | [], e, s, _, h => ⟨e, s, if_pos (hs e s h), h⟩
  | x :: l, e, s, st, h => by
    obtain ⟨e1, e2, s2, h1, h2, h3⟩ := st x (List.mem_cons_self ..) e s h
    obtain ⟨e', s', h4, h5⟩ := forL_inv hs (fun y hy => st y (List.mem_cons_of_mem _ hy)) h3
    refine ⟨e', s', ?_, h5⟩
    rw [forL_cons, if_pos (hs e s h), h1]
    dsimp only
    rw [h2]
    exact h4
theorem whileL_succ (t : Env → Store → Res Bool) (b : Env → Store → Res Flow) (k : Nat) : whileL t b (k + 1) e s = (t e s).bind fun c e s => if c then (b e s).bind fun f e s => match f with
    | .nx => whileL t b k e s
    | .ret m => .ok (.ret m) e s
    else .ok .nx e s := Eq.trans rfl rfl
theorem lay_nil : (D.tup []).lay = true := rfl
theorem eqv_T0 (xs : List D) : eqv (.tup xs) (.tup []) = xs.isEmpty := by cases xs <;> rfl
theorem eq_T0 {xs : List D} (h : (D.tup xs).lay = true) : cmp .eq (.val (.tup xs)) (.val (.tup [])) = some xs.isEmpty := by
  show (if cmpOk (.tup xs) (.tup []) = true then some (eqv (.tup xs) (.tup [])) else none) = _
  have hk : cmpOk (.tup xs) (.tup []) = true := by
    unfold cmpOk
    rw [h, lay_nil, Bool.true_and, Bool.true_and]
    exact decide_eq_true (Nat.le_trans (Nat.min_le_right _ _) (show (D.tup []).deep ≤ 64 by decide))
  rw [if_pos hk, eqv_T0]
theorem ne_T0 {xs : List D} (h : (D.tup xs).lay = true) : cmp .ne (.val (.tup xs)) (.val (.tup [])) = some (!xs.isEmpty) := by
  show (cmp .eq (.val (.tup xs)) (.val (.tup []))).map _ = _
  rw [eq_T0 h]
  rfl
end
end OI.Y

/-! OIz: the laws' own helpers: the script's numbers drawn. -/
namespace OI.Y
open PySem (Str)
def fStart : Fn := ⟨1, 3, (.cons (.asg (.one 1) (.cst (.int 1)))
  (.cons (.fors (.one 2) (.of (.var 0)) (.cons (.asg (.one 1) (.bin .mod (.bin .add (.bin .add (.bin .mul (.var 1) (.cst (.int 48271))) (.var 2)) (.cst (.int 7))) (.cst (.int 2147483647))))
  .nil))
  (.cons (.ret (.share (.lst (.cons (.var 0) (.cons (.cst (.int 0)) (.cons (.var 1) (.cons (.cst (.int 0)) .nil)))))))
  .nil)))⟩
def fDrawn : Fn := ⟨2, 4, (.cons (.ifs (.cmp .gt (.idx (.var 0) (.cst (.int 3))) (.cst (.int 0))) (.cons (.asg (.one 2) (.bin .mod (.idx (.var 0) (.cst (.int 3))) (.var 1)))
  (.cons (.setI (.var 0) (.cst (.int 3)) (.bin .fdiv (.idx (.var 0) (.cst (.int 3))) (.var 1)))
  (.cons (.ret (.var 2))
  .nil))) .nil)
  (.cons (.setI (.var 0) (.cst (.int 1)) (.bin .add (.idx (.var 0) (.cst (.int 1))) (.cst (.int 1))))
  (.cons (.ifs (.cmp .le (.idx (.var 0) (.cst (.int 1))) (.bi1 "len" (.idx (.var 0) (.cst (.int 0))))) (.cons (.asg (.one 3) (.idx (.idx (.var 0) (.cst (.int 0))) (.bin .sub (.idx (.var 0) (.cst (.int 1))) (.cst (.int 1)))))
  (.cons (.setI (.var 0) (.cst (.int 3)) (.ife (.cmp .ge (.var 3) (.bin .pow (.cst (.int 10)) (.cst (.int 18)))) (.bin .fdiv (.var 3) (.var 1)) (.cst (.int 0))))
  (.cons (.ret (.bin .mod (.var 3) (.var 1)))
  .nil))) .nil)
  (.cons (.setI (.var 0) (.cst (.int 2)) (.bin .mod (.bin .add (.bin .mul (.idx (.var 0) (.cst (.int 2))) (.cst (.int 48271))) (.cst (.int 11))) (.cst (.int 2147483647))))
  (.cons (.ret (.bin .mod (.bin .fdiv (.idx (.var 0) (.cst (.int 2))) (.cst (.int 7))) (.var 1)))
  .nil)))))⟩
def fSame : Fn := ⟨2, 3, (.cons (.ifs (.isi (.var 1) false [.tup, .lst]) (.cons (.ifs (.either (.nott (.isi (.var 0) false [.tup, .lst])) (.cmp .ne (.isi (.var 0) true [.lst]) (.isi (.var 1) true [.lst]))) (.cons (.ret (.cst (.bl false)))
  .nil) .nil)
  (.cons (.ifs (.cmp .ne (.bi1 "len" (.var 0)) (.bi1 "len" (.var 1))) (.cons (.ret (.cst (.bl false)))
  .nil) .nil)
  (.cons (.ret (.cmp .eq (.lc (.var 2) (.one 2) (.rng1 (.bi1 "len" (.var 1))) (.yes (.nott (.call "_law_same" (.cons (.idx (.var 0) (.var 2)) (.cons (.idx (.var 1) (.var 2)) .nil))))) [2]) (.lst .nil)))
  .nil))) .nil)
  (.cons (.ifs (.isN false (.var 1)) (.cons (.ret (.isN false (.var 0)))
  .nil) .nil)
  (.cons (.ifs (.isi (.var 1) true [.str]) (.cons (.ret (.both (.isi (.var 0) true [.str]) (.cmp .eq (.var 0) (.var 1))))
  .nil) .nil)
  (.cons (.ifs (.either (.isi (.var 1) true [.bl]) (.isi (.var 0) true [.bl])) (.cons (.ret (.both (.isi (.var 1) true [.bl]) (.both (.isi (.var 0) true [.bl]) (.cmp .eq (.var 0) (.var 1)))))
  .nil) .nil)
  (.cons (.ret (.both (.isi (.var 0) true [.int]) (.cmp .eq (.var 0) (.var 1))))
  .nil)))))⟩
theorem gc_len {s s' : Store} {m : M} (h : s'.length ≤ s.length) : gc s m s' = s' := by
  unfold gc
  split
  · rename_i hg
    rw [← hg.1]
    exact List.take_of_length_le h
  · rfl
/-- the state of the drawing, at the store's first place -/
def St (ns : List Int) (s : Store) : Prop := ∃ (pos mixed rest : Int) (v : Nat), s[0]? = some ⟨.lst [.scr ns, .int pos, .int mixed, .int rest], v⟩ ∧ 0 ≤ pos
/-- only the drawing goes on -/
def Dr (ns : List Int) (s s' : Store) : Prop := St ns s' ∧ ∃ en, s' = s.set 0 en
section
variable {P : Prog} {W n : Nat} {s : Store} {ns : List Int}
theorem drawn_ok (hl : look P "_law_drawn" = some fDrawn) {many : Int} (h1 : 0 < many) (h2 : many < 2 ^ 200) (hs : St ns s) : ∃ k s', run P W (n + 1) "_law_drawn" [.loc 0, .int many] s = .ok (.val (.int k)) s' ∧ 0 ≤ k ∧ k < many ∧ Dr ns s s' := by
  obtain ⟨pos, mixed, rest, v, h0, hp⟩ := hs
  have hlt := (List.getElem?_eq_some_iff.mp h0).1
  rw [run_eq hl rfl (by decide)]
  have set0 : ∀ en : Ent, (s.set 0 en)[0]? = some en := fun en => List.getElem?_set_self hlt
  by_cases c1 : 0 < rest
  · refine ⟨rest % many, s.set 0 ⟨.lst [.scr ns, .int pos, .int mixed, .int (rest / many)], v + 1⟩, ?_, Int.emod_nonneg _ (by omega), Int.emod_lt_of_pos _ h1, ⟨pos, mixed, rest / many, v + 1, set0 _, hp⟩, _, rfl⟩
    simp [fDrawn, begun, h0, L2.ixN, c1, bin_modI h1, bin_fdivI h1 h2, gc_len]
  · by_cases c2 : pos + 1 ≤ ns.length
    · have hx : (ns.map D.int)[pos.toNat]? = some (.int ns[pos.toNat]) := by
        rw [List.getElem?_map, List.getElem?_eq_getElem (by omega)]
        rfl
      have hx2 : L2.atI (ns.map D.int) pos = some (.int ns[pos.toNat]) := by
        rw [atI_at (k := pos.toNat) (by omega) (by rw [List.length_map]; omega)]
        exact hx
      refine ⟨ns[pos.toNat] % many, s.set 0 ⟨.lst [.scr ns, .int (pos + 1), .int mixed, .int (if ns[pos.toNat] ≥ 10 ^ 18 then ns[pos.toNat] / many else 0)], v + 1 + 1⟩, ?_, Int.emod_nonneg _ (by omega), Int.emod_lt_of_pos _ h1, ⟨pos + 1, mixed, _, v + 1 + 1, set0 _, by omega⟩, _, rfl⟩
      by_cases c3 : (1000000000000000000 : Int) ≤ ns[pos.toNat]
      · simp [fDrawn, begun, h0, L2.ixN, c1, bin_modI h1, bin_fdivI h1 h2, gc_len, c2, c3, hx2, bin_powI, set0]
      · simp [fDrawn, begun, h0, L2.ixN, c1, bin_modI h1, bin_fdivI h1 h2, gc_len, c2, c3, hx2, bin_powI, set0]
    · refine ⟨(mixed * 48271 + 11) % 2147483647 / 7 % many, s.set 0 ⟨.lst [.scr ns, .int (pos + 1), .int ((mixed * 48271 + 11) % 2147483647), .int rest], v + 1 + 1⟩, ?_, Int.emod_nonneg _ (by omega), Int.emod_lt_of_pos _ h1, ⟨pos + 1, _, rest, v + 1 + 1, set0 _, by omega⟩, _, rfl⟩
      simp [fDrawn, begun, h0, L2.ixN, c1, bin_modI, h1, bin_fdivI, h2, gc_len, c2, bin_mulR, set0]
theorem start_loop (hx : Int) : ∀ (l : List Int) (m : Int) (o : Option M) (a : Option M), ∃ m' o', forL [] s (.one 2) (execs (run P W n) W (.cons (.asg (.one 1) (.bin .mod (.bin .add (.bin .add (.bin .mul (.var 1) (.cst (.int 48271))) (.var 2)) (.cst (.int 7))) (.cst (.int 2147483647)))) .nil)) (l.map .int) [a, some (.val (.int m)), o] s = .ok .nx [a, some (.val (.int m')), o'] s
  | [], m, o, a => ⟨m, o, by simp⟩
  | x :: l, m, o, a => by
    obtain ⟨m', o', h⟩ := start_loop hx l ((m * 48271 + x + 7) % 2147483647) (some (.val (.int x))) a
    refine ⟨m', o', ?_⟩
    rw [List.map_cons, forL_cons, ← h]
    simp [bin_mulR, bin_modI]
theorem start_ok (hl : look P "_law_start" = some fStart) : ∃ m, run P W (n + 1) "_law_start" [.scr ns] [] = .ok (.val (.loc 0)) [⟨.lst [.scr ns, .int 0, .int m, .int 0], 0⟩] := by
  rw [run_eq hl rfl (by decide)]
  obtain ⟨m', o', h⟩ := start_loop (P := P) (W := W) (n := n) (s := []) 0 ns 1 none (some (.val (.scr ns)))
  refine ⟨m', ?_⟩
  simp [fStart, begun, itK, wk, items, M.seq?, M.lst?]
  rw [h]
  simp [gc, M.locsLt, D.locsLt]

/-! ### _law_same, of equal things -/
mutual
/-- data of no objects, no greater than may be -/
def D.plain : D → Bool
  | .non => true
  | .bl _ => true
  | .int _ => true
  | .str _ => true
  | .tup xs => decide (xs.length ≤ LIM) && D.plains xs
  | .lst xs => decide (xs.length ≤ LIM) && D.plains xs
  | _ => false
def D.plains : List D → Bool
  | [] => true
  | x :: xs => D.plain x && D.plains xs
end
mutual
def D.tall : D → Nat
  | .tup xs => D.talls xs + 1
  | .lst xs => D.talls xs + 1
  | _ => 0
def D.talls : List D → Nat
  | [] => 0
  | x :: xs => max (D.tall x) (D.talls xs)
end
theorem plains_mem : ∀ {xs : List D} {x : D}, D.plains xs = true → x ∈ xs → D.plain x = true ∧ D.tall x ≤ D.talls xs
  | y :: xs, x, h, hm => by
    unfold D.plains at h
    rw [Bool.and_eq_true] at h
    unfold D.talls
    cases hm with
    | head => exact ⟨h.1, Nat.le_max_left _ _⟩
    | tail _ hm =>
      obtain ⟨h1, h2⟩ := plains_mem h.2 hm
      exact ⟨h1, Nat.le_trans h2 (Nat.le_max_right _ _)⟩
theorem rng_mem {j : Int} {x : D} (h : x ∈ rng 0 j) : ∃ k : Nat, x = .int k ∧ (k : Int) < j := by
  unfold rng at h
  obtain ⟨k, hk, e⟩ := List.mem_map.mp h
  rw [List.mem_range] at hk
  refine ⟨k, ?_, by omega⟩
  rw [← e, Int.zero_add]
theorem rng_len (i j : Int) : (rng i j).length = (j - i).toNat := by
  unfold rng
  rw [List.length_map, List.length_range]
theorem same_step (hl : look P "_law_same" = some fSame) (n : Nat) (ih : ∀ m, m + 1 = n → ∀ (x : D) (s : Store), D.plain x = true → D.tall x ≤ m → run P W (m + 1) "_law_same" [x, x] s = .ok (.val (.bl true)) s) (x : D) (s : Store) (hp : D.plain x = true) (ht : D.tall x ≤ n) : run P W (n + 1) "_law_same" [x, x] s = .ok (.val (.bl true)) s := by
  rw [run_eq hl rfl (by decide)]
  have seq : ∀ (xs : List D) (f : List D → D), x = f xs → (f = D.tup ∨ f = D.lst) → fin s (execs (run P W n) W fSame.body (begun fSame [x, x]) s) = .ok (.val (.bl true)) s := fun xs f hx hf => by
    have hpl : xs.length ≤ LIM ∧ D.plains xs = true ∧ D.talls xs + 1 ≤ n := by
      rcases hf with rfl | rfl
      · subst hx
        unfold D.plain at hp
        rw [Bool.and_eq_true, decide_eq_true_eq] at hp
        exact ⟨hp.1, hp.2, ht⟩
      · subst hx
        unfold D.plain at hp
        rw [Bool.and_eq_true, decide_eq_true_eq] at hp
        exact ⟨hp.1, hp.2, ht⟩
    obtain ⟨p1, p2, p3⟩ := hpl
    have hn : n = n - 1 + 1 := by omega
    have inner : ∀ k : Nat, (k : Int) < xs.length → ∃ y, L2.atI xs k = some y ∧ run P W n "_law_same" [y, y] s = .ok (.val (.bl true)) s := fun k hk => by
      have hk' : k < xs.length := by omega
      refine ⟨xs[k], by rw [atI_at (k := k) rfl hk']; exact List.getElem?_eq_getElem hk', ?_⟩
      obtain ⟨q1, q2⟩ := plains_mem p2 (List.getElem_mem hk')
      have := ih (n - 1) (by omega) xs[k] s q1 (by omega)
      rw [← hn] at this
      exact this
    rcases hf with rfl | rfl
    · subst hx
      simp [fSame, begun, getI_len p1, lcK, wipeOk, rng_len, p1, wipe]
      rw [lc_none (by simp) [] fun x hx => ?_]
      · simp [lcEnd, back, gc_self]
      · obtain ⟨k, rfl, hk⟩ := rng_mem hx
        obtain ⟨y, h1, h2⟩ := inner k hk
        refine ⟨_, [some (.val (.tup xs)), some (.val (.tup xs)), some (.val (.int k))], rfl, ?_, rfl⟩
        simp [h1, h2]
    · subst hx
      simp [fSame, begun, getI_len p1, lcK, wipeOk, rng_len, p1, wipe]
      rw [lc_none (by simp) [] fun x hx => ?_]
      · simp [lcEnd, back, gc_self]
      · obtain ⟨k, rfl, hk⟩ := rng_mem hx
        obtain ⟨y, h1, h2⟩ := inner k hk
        refine ⟨_, [some (.val (.lst xs)), some (.val (.lst xs)), some (.val (.int k))], rfl, ?_, rfl⟩
        simp [h1, h2]
  cases x with
  | tup xs => exact seq xs .tup rfl (.inl rfl)
  | lst xs => exact seq xs .lst rfl (.inr rfl)
  | non => simp [fSame, begun, gc_self]
  | bl b => simp [fSame, begun, gc_self]
  | int b => simp [fSame, begun, gc_self]
  | str b => simp [fSame, begun, gc_self]
  | _ => cases hp
theorem same_refl (hl : look P "_law_same" = some fSame) (n : Nat) : ∀ (x : D) (s : Store), D.plain x = true → D.tall x ≤ n → run P W (n + 1) "_law_same" [x, x] s = .ok (.val (.bl true)) s := by
  induction n with
  | zero => exact same_step hl 0 fun m hm => by cases hm
  | succ n ih => exact same_step hl (n + 1) fun m hm => by cases hm; exact ih
end
end OI.Y

/-! OIy2: more rules to reckon a run: objects, methods, texts, loops that end early. -/
namespace OI.Y
open PySem (Str)
theorem str_inj {a b : String} (h : Str.ofString a = Str.ofString b) : a = b := by
  rw [PySem.Str.ofString_eq_toList, PySem.Str.ofString_eq_toList] at h
  have h1 : a.toList.map Char.toNat = b.toList.map Char.toNat := by
    have := congrArg (fun z : Str => z.cps.toList) h
    simpa using this
  have h2 : a.toList = b.toList := by
    have inj : Function.Injective Char.toNat := fun x y e => Char.toNat_inj.mp e
    exact (List.map_inj_right (fun x y e => inj e)).mp h1
  exact String.ext h2
@[scoped simp] theorem str_eq (a b : String) : (Str.ofString a = Str.ofString b) = (a = b) := propext ⟨str_inj, fun h => by rw [h]⟩
section
variable {R : Runs} {W : Nat} {e : Env} {s : Store}
@[scoped simp] theorem ev_attr (a : IE) (f : String) : ev R (.attr a f) e s = (ev R a e s).bind (attrK f) := Eq.trans rfl rfl
@[scoped simp] theorem ev_meth (o : IE) (k m : String) (es : IEs) : ev R (.meth o k m es) e s = (ev R o e s).bind fun x => methK R k m x (evs R es) := Eq.trans rfl rfl
@[scoped simp] theorem ev_new (k : String) (es : IEs) : ev R (.new k es) e s = (evs R es e s).bind (newK R k) := Eq.trans rfl rfl
@[scoped simp] theorem ev_glob (x : String) (d : D) : ev R (.glob x d) e s = .ok (.val d, .tmp) e s := Eq.trans rfl rfl
@[scoped simp] theorem ev_chain (op op2 : COp) (a b c : IE) : ev R (.chain op op2 a b c) e s = two (ev R a) (ev R b) (fun x y => valK y (chainK (cmp op x y) (one (ev R c) fun z => outB (cmp op2 y z)))) e s := Eq.trans rfl rfl
@[scoped simp] theorem ev_chain3 (op op2 op3 : COp) (a b c d : IE) : ev R (.chain3 op op2 op3 a b c d) e s = two (ev R a) (ev R b) (fun x y => valK y (chainK (cmp op x y) (one (ev R c) fun z => valK z (chainK (cmp op2 y z) (one (ev R d) fun w => outB (cmp op3 z w)))))) e s := Eq.trans rfl rfl
@[scoped simp] theorem ev_lrange (a b : IE) : ev R (.lrange a b) e s = two (ev R a) (ev R b) lrangeK e s := Eq.trans rfl rfl
@[scoped simp] theorem ev_dct (t : Bool) (ps : IPs) : ev R (.dct t ps) e s = (evk R ps e s).bind (dctK t) := Eq.trans rfl rfl
@[scoped simp] theorem ev_bm1 (m : String) (o a : IE) : ev R (.bm1 m o a) e s = (ev R o e s).bind fun x e1 s1 => if bmOk m (bw x.1 x.2 s1).1 then (ev R a e1 s1).bind (bm1K m x s1) else .bad := Eq.trans rfl rfl
@[scoped simp] theorem ev_bm2 (m : String) (o a b : IE) : ev R (.bm2 m o a b) e s = (ev R o e s).bind fun x e1 s1 => if dkOk (bw x.1 x.2 s1).1 then (ev R a e1 s1).bind fun y e2 s2 => (ev R b e2 s2).bind (bm2K m x s1 y s2) else .bad := Eq.trans rfl rfl
@[scoped simp] theorem evk_nil : evk R .nil e s = .ok [] e s := Eq.trans rfl rfl
@[scoped simp] theorem evk_cons (a b : IE) (r : IPs) : evk R (.cons a b r) e s = (valD (ev R a) e s).bind fun k e s => (valD (ev R b) e s).bind fun v e s => (evk R r e s).bind fun ps e s => .ok ((k, v) :: ps) e s := Eq.trans rfl rfl
@[scoped simp] theorem evi_zip (a b : IE) : evi R (.zip a b) e s = (ev R a e s).bind fun x e1 s1 => (ev R b e1 s1).bind fun y => zipK x y s1 := Eq.trans rfl rfl
@[scoped simp] theorem rng2K_int (i j : Int) : rng2K (.val (.int i)) (.val (.int j)) e s = .ok (rng i j, []) e s := Eq.trans rfl rfl
/-! objects -/
def attrF (o : Option M) (n : Nat) (f : String) (e : Env) (s : Store) : Res (M × Pl) :=
  match o with
  | some m => .ok (m, .fld n f) e s
  | none => .bad
def attrL (o : Option Ent) (n : Nat) (f : String) (e : Env) (s : Store) : Res (M × Pl) :=
  match o with
  | some ⟨.ins _ fs, _⟩ => attrF (fldGet fs f) n f e s
  | _ => .bad
@[scoped simp] theorem attrK_loc (n : Nat) (p : Pl) (f : String) : attrK f (.val (.loc n), p) e s = attrL s[n]? n f e s := by
  first
  | (unfold attrK attrL attrF
     dsimp only
     done)
  | (unfold attrK attrL attrF
     dsimp only
     cases h : s[n]? with
     | none => simp only [h]
     | some en =>
       obtain ⟨o, v⟩ := en
       cases o <;> simp only [h]
       split <;> simp_all)
@[scoped simp] theorem attrL_ins (k : String) (fs : List (String × M)) (v n : Nat) (f : String) : attrL (some ⟨.ins k fs, v⟩) n f e s = attrF (fldGet fs f) n f e s := Eq.trans rfl rfl
@[scoped simp] theorem attrF_some (m : M) (n : Nat) (f : String) : attrF (some m) n f e s = .ok (m, .fld n f) e s := Eq.trans rfl rfl
@[scoped simp] theorem fldGet_nil (f : String) : fldGet [] f = none := Eq.trans rfl rfl
@[scoped simp] theorem fldGet_cons (a f : String) (m : M) (r : List (String × M)) : fldGet ((a, m) :: r) f = if a = f then some m else fldGet r f := by
  unfold fldGet
  rw [List.find?_cons]
  by_cases h : a = f
  · subst h; simp
  · have hb : (a == f) = false := beq_eq_false_iff_ne.mpr h
    simp [h, hb]
@[scoped simp] theorem fldPut_nil (f : String) (m : M) : fldPut [] f m = [(f, m)] := Eq.trans rfl rfl
@[scoped simp] theorem fldPut_cons (a f : String) (m m' : M) (r : List (String × M)) : fldPut ((a, m) :: r) f m' = if a = f then (a, m') :: r else (a, m) :: fldPut r f m' := by
  show (if a == f then (a, m') :: r else (a, m) :: fldPut r f m') = _
  by_cases h : a = f
  · subst h; simp
  · have hb : (a == f) = false := beq_eq_false_iff_ne.mpr h
    simp [h, hb]
@[scoped simp] theorem src_fld (n : Nat) (f : String) : Pl.src (.fld n f) = some n := Eq.trans rfl rfl
def methL (R : Runs) (o : Option Ent) (k m : String) (n : Nat) (as : Env → Store → Res (List D)) (e : Env) (s : Store) : Res (M × Pl) :=
  match o with
  | some ⟨.ins k' fs, _⟩ => if k' = k ∧ fldGet fs m = none then (as e s).bind fun ds => callK R (k ++ "." ++ m) (.loc n :: ds) else .bad
  | _ => .bad
@[scoped simp] theorem methK_loc (n : Nat) (p : Pl) (k m : String) (as : Env → Store → Res (List D)) : methK R k m (.val (.loc n), p) as e s = methL R s[n]? k m n as e s := by
  first
  | (unfold methK methL
     dsimp only
     done)
  | (unfold methK methL
     dsimp only
     cases h : s[n]? with
     | none => simp only [h]
     | some en =>
       obtain ⟨o, v⟩ := en
       cases o <;> simp only [h])
@[scoped simp] theorem methL_ins (k' : String) (fs : List (String × M)) (v n : Nat) (k m : String) (as : Env → Store → Res (List D)) : methL R (some ⟨.ins k' fs, v⟩) k m n as e s = if k' = k ∧ fldGet fs m = none then (as e s).bind fun ds => callK R (k ++ "." ++ m) (.loc n :: ds) else .bad := Eq.trans rfl rfl
@[scoped simp] theorem newK_def (k : String) (ds : List D) : newK R k ds e s = (ofRR (R (k ++ ".__init__") (.loc s.length :: ds) (s ++ [⟨.ins k [], 0⟩])) e).bind (newE s.length) := Eq.trans rfl rfl
@[scoped simp] theorem newE_non (n : Nat) : newE n (.val .non) e s = .ok (.val (.loc n), .tmp) e s := Eq.trans rfl rfl
@[scoped simp] theorem valK_val (d : D) (k : Env → Store → Res (M × Pl)) : valK (.val d) k e s = k e s := Eq.trans rfl rfl
@[scoped simp] theorem chainK_t (k : Env → Store → Res (M × Pl)) : chainK (some true) k e s = k e s := Eq.trans rfl rfl
@[scoped simp] theorem chainK_f (k : Env → Store → Res (M × Pl)) : chainK (some false) k e s = .ok (.val (.bl false), .tmp) e s := Eq.trans rfl rfl
theorem chainK_dec {p : Prop} [Decidable p] (k : Env → Store → Res (M × Pl)) : chainK (some (decide p)) k e s = if p then k e s else .ok (.val (.bl false), .tmp) e s := by
  by_cases h : p <;> simp [h]
@[scoped simp] theorem lrangeK_def (x y : M) : lrangeK x y e s = (getI x e s).bind fun i e s => (getI y e s).bind fun j e s => if rngOk (j - i) then .ok (.ol (rng i j), .tmp) e s else .bad := Eq.trans rfl rfl
@[scoped simp] theorem dctK_def (t : Bool) (qs : List (D × D)) : dctK t qs e s = if qs.all fun p => keyOk t p.1 then .ok (.od t (dmerge [] qs), .tmp) e s else .bad := Eq.trans rfl rfl
@[scoped simp] theorem bm1K_def (m : String) (x : M × Pl) (s1 : Store) (y : M × Pl) : bm1K m x s1 y e s = if same (bw x.1 x.2 s1).2 s1 s then out (bm1 m (bw x.1 x.2 s1).1 (bw y.1 y.2 s).1) e s else .bad := Eq.trans rfl rfl
@[scoped simp] theorem bm2K_def (m : String) (x : M × Pl) (s1 : Store) (y : M × Pl) (s2 : Store) (z : M × Pl) : bm2K m x s1 y s2 z e s = if same (bw x.1 x.2 s1).2 s1 s && same (bw y.1 y.2 s2).2 s2 s then out (bm2 m (bw x.1 x.2 s1).1 (bw y.1 y.2 s2).1 (bw z.1 z.2 s).1) e s else .bad := Eq.trans rfl rfl
@[scoped simp] theorem bmOk_idx (xs : List D) : bmOk "index" (.ol xs) = true := Eq.trans rfl rfl
@[scoped simp] theorem bmOk_idx' (xs : List D) : bmOk "index" (.val (.lst xs)) = true := Eq.trans rfl rfl
@[scoped simp] theorem bmOk_cnt (xs : List D) : bmOk "count" (.ol xs) = true := Eq.trans rfl rfl
@[scoped simp] theorem dkOk_od (kvs : List (D × D)) : dkOk (.od false kvs) = true := Eq.trans rfl rfl
@[scoped simp] theorem bm2_get (kvs : List (D × D)) (k d : D) : bm2 "get" (.od false kvs) (.val k) (.val d) = if keyOk false k then some (.val ((dget kvs k).getD d)) else none := Eq.trans rfl rfl
@[scoped simp] theorem zipK_def (x y : M × Pl) (s1 : Store) : zipK x y s1 e s = if still (wk x.1 x.2 s1).2 s1 s then (match pairs (wk x.1 x.2 s1).1 (wk y.1 y.2 s).1 with
    | some ps => .ok (ps, (wk x.1 x.2 s1).2 ++ (wk y.1 y.2 s).2) e s
    | none => .bad) else .bad := Eq.trans rfl rfl
/-! statements -/
@[scoped simp] theorem exec_rais (c : String) : exec R W (.rais c) e s = .err c e s := Eq.trans rfl rfl
@[scoped simp] theorem exec_expr (a : IE) : exec R W (.expr a) e s = (valM (ev R a) e s).bind fun _ e1 s1 => .ok .nx (if s1 = s then e else e1) s1 := Eq.trans rfl rfl
def setAL (o : Option Ent) (n : Nat) (f : String) (m : M) (e0 : Env) (s0 : Store) (e : Env) (s : Store) : Res Flow :=
  match o with
  | some ⟨.ins c fs, v⟩ => if fs.length < 900 then .ok .nx (keep m e0 e s0 s) (s.set n ⟨.ins c (fldPut fs f m), v + 1⟩) else .bad
  | _ => .bad
def setAK (f : String) (m : M) (e0 : Env) (s0 : Store) (x : M × Pl) (e : Env) (s : Store) : Res Flow :=
  match x.1 with
  | .val (.loc n) => setAL s[n]? n f m e0 s0 e s
  | _ => .bad
@[scoped simp] theorem exec_setA (o a : IE) (f : String) : exec R W (.setA o f a) e s = (valM (ev R a) e s).bind fun m e1 s1 => (ev R o e1 s1).bind (setAK f m e s) := Eq.trans rfl rfl
@[scoped simp] theorem setAK_loc (n : Nat) (p : Pl) (f : String) (m : M) (e0 : Env) (s0 : Store) : setAK f m e0 s0 (.val (.loc n), p) e s = setAL s[n]? n f m e0 s0 e s := Eq.trans rfl rfl
@[scoped simp] theorem setAL_ins (c : String) (fs : List (String × M)) (v n : Nat) (f : String) (m : M) (e0 : Env) (s0 : Store) : setAL (some ⟨.ins c fs, v⟩) n f m e0 s0 e s = if fs.length < 900 then .ok .nx (keep m e0 e s0 s) (s.set n ⟨.ins c (fldPut fs f m), v + 1⟩) else .bad := Eq.trans rfl rfl
/-- a field's container, changed -/
def atF (o : Option Ent) (n : Nat) (f : String) (g : M → Option M) (e : Env) (s : Store) : Res Flow :=
  match o with
  | some ⟨.ins c fs, v⟩ => match fldGet fs f with
    | some m => match g m with
      | some m' => .ok .nx e (s.set n ⟨.ins c (fldPut fs f m'), v + 1⟩)
      | none => .bad
    | none => .bad
  | _ => .bad
theorem at_fld {m0 : M} (h0 : m0.isVal = false) (n : Nat) (f : String) (sl : List Nat) (g : M → Option M) (s1 : Store) (hs : same (some n) s1 s = true) : atK sl (m0, .fld n f) s1 g e s = atF s[n]? n f g e s := by
  have hh : hold sl m0 (.fld n f) = some (.fld n f) := by
    cases m0 with
    | val d => cases h0
    | ol xs => rfl
    | od t kvs => rfl
  unfold atK
  dsimp only
  rw [hh]
  dsimp only
  have h1 : same (Pl.fsrc (.fld n f)) s1 s = true := hs
  rw [if_pos h1]
  unfold curr atF
  dsimp only
  cases h : s[n]? with
  | none => simp only [h]
  | some en =>
    obtain ⟨o, v⟩ := en
    cases o with
    | ins k fs =>
      simp only [h]
      cases h2 : fldGet fs f with
      | none => rfl
      | some m =>
        simp only [h2]
        unfold pushPl
        cases h3 : g m with
        | none => rfl
        | some m' =>
          simp only
          unfold put
          simp only [h]
    | lst xs => simp only [h]
    | dic t xs => simp only [h]
@[scoped simp] theorem at_fldL (xs : List D) (n : Nat) (f : String) (sl : List Nat) (g : M → Option M) : atK sl (.ol xs, .fld n f) s g e s = atF s[n]? n f g e s := at_fld rfl n f sl g s (same_self _ _)
@[scoped simp] theorem at_fldD (t : Bool) (xs : List (D × D)) (n : Nat) (f : String) (sl : List Nat) (g : M → Option M) : atK sl (.od t xs, .fld n f) s g e s = atF s[n]? n f g e s := at_fld rfl n f sl g s (same_self _ _)
@[scoped simp] theorem atF_ins (c : String) (fs : List (String × M)) (v n : Nat) (f : String) (g : M → Option M) : atF (some ⟨.ins c fs, v⟩) n f g e s = match fldGet fs f with
    | some m => match g m with
      | some m' => .ok .nx e (s.set n ⟨.ins c (fldPut fs f m'), v + 1⟩)
      | none => .bad
    | none => .bad := Eq.trans rfl rfl
@[scoped simp] theorem at_slotD {t : Bool} {xs : List (D × D)} {i : Nat} {sl : List Nat} {f : M → Option M} {s1 : Store} : atK sl (.od t xs, .slot i) s1 f e s = if i ∈ sl then atS e[i]? i f e s else .bad := by
  have hh : hold sl (.od t xs) (.slot i) = if i ∈ sl then some (.slot i) else none := rfl
  unfold atK
  dsimp only
  rw [hh]
  by_cases hi : i ∈ sl
  · rw [if_pos hi, if_pos hi]
    dsimp only
    have h1 : same (Pl.fsrc (.slot i)) s1 s = true := rfl
    rw [if_pos h1]
    unfold curr atS
    dsimp only
    cases h : e[i]? with
    | none => rfl
    | some o =>
      cases o with
      | none => rfl
      | some m =>
        dsimp only
        unfold pushPl
        cases f m <;> rfl
  · rw [if_neg hi, if_neg hi]
    exact if_neg fun z => nomatch z.1
@[scoped simp] theorem setItem_od (kvs : List (D × D)) (k d : D) : setItem (.od false kvs) k d = if keyOk false k ∧ kvs.length < LIM then some (.od false (dput kvs k d)) else none := Eq.trans rfl rfl
@[scoped simp] theorem slot_attr (a : IE) (f : String) : IE.slot? (.attr a f) = [] := Eq.trans rfl rfl
@[scoped simp] theorem slot_idx (a b : IE) : IE.slot? (.idx a b) = [] := Eq.trans rfl rfl
@[scoped simp] theorem keyOk_int (i : Int) : keyOk false (.int i) = true := Eq.trans rfl rfl
@[scoped simp] theorem keyOk_str (i : Str) : keyOk false (.str i) = true := Eq.trans rfl rfl
@[scoped simp] theorem dget_nil (k : D) : dget [] k = none := Eq.trans rfl rfl
@[scoped simp] theorem dget_cons (a d k : D) (r : List (D × D)) : dget ((a, d) :: r) k = if a = k then some d else dget r k := by
  unfold dget
  rw [List.find?_cons]
  by_cases h : a = k
  · subst h; simp
  · simp [h]
@[scoped simp] theorem index_od (t : Bool) (kvs : List (D × D)) (k : D) : index (.od t kvs) (.val k) = if keyOk t k then dget kvs k else none := Eq.trans rfl rfl
@[scoped simp] theorem isIn_od (t : Bool) (kvs : List (D × D)) (k : D) : cmp .isin (.val k) (.od t kvs) = if keyOk t k then some (dget kvs k).isSome else none := Eq.trans rfl rfl
@[scoped simp] theorem nin_od (t : Bool) (kvs : List (D × D)) (k : D) : cmp .nin (.val k) (.od t kvs) = (if keyOk t k then some (dget kvs k).isSome else none).map fun c => !c := Eq.trans rfl rfl
@[scoped simp] theorem vl_od (t : Bool) (xs : List (D × D)) (i : Nat) : vl (.od t xs) (.slot i) e s = .ok (.val (.dic t xs)) (e.set i (some (.val (.dic t xs)))) s := Eq.trans rfl rfl
@[scoped simp] theorem frz_od (t : Bool) (d : List (D × D)) : M.frz (.od t d) = .dic t d := Eq.trans rfl rfl
@[scoped simp] theorem keep_od (t : Bool) (xs : List (D × D)) (e1 : Env) (s0 s1 : Store) : keep (.od t xs) e e1 s0 s1 = e1 := if_neg fun h => nomatch h.1
@[scoped simp] theorem keep_int (i : Int) (e1 : Env) : keep (.val (.int i)) e e1 s s = e := if_pos ⟨rfl, rfl⟩
@[scoped simp] theorem keep_bl (i : Bool) (e1 : Env) : keep (.val (.bl i)) e e1 s s = e := if_pos ⟨rfl, rfl⟩
@[scoped simp] theorem keep_str (i : Str) (e1 : Env) : keep (.val (.str i)) e e1 s s = e := if_pos ⟨rfl, rfl⟩
@[scoped simp] theorem keep_non (e1 : Env) : keep (.val .non) e e1 s s = e := if_pos ⟨rfl, rfl⟩
@[scoped simp] theorem fin_err (c : String) (s0 : Store) : fin s0 (.err c e s) = .err c (gc s0 (.val .non) s) := Eq.trans rfl rfl
/-! walked -/
def wkK (o : Option Ent) (n : Nat) : M × List Src :=
  match o with
  | some ⟨.lst xs, _⟩ => (.ol xs, [.ent n])
  | some ⟨.dic t kvs, _⟩ => (.od t kvs, [.ent n])
  | _ => (.val (.loc n), [])
@[scoped simp] theorem wk_loc (n : Nat) (p : Pl) : wk (.val (.loc n)) p s = wkK s[n]? n := by
  unfold wk wkK
  dsimp only
  all_goals (split <;> simp_all)
@[scoped simp] theorem wkK_lst (xs : List D) (v n : Nat) : wkK (some ⟨.lst xs, v⟩) n = (.ol xs, [.ent n]) := Eq.trans rfl rfl
@[scoped simp] theorem wkK_dic (t : Bool) (xs : List (D × D)) (v n : Nat) : wkK (some ⟨.dic t xs, v⟩) n = (.od t xs, [.ent n]) := Eq.trans rfl rfl
@[scoped simp] theorem wk_lst (xs : List D) (p : Pl) : wk (.val (.lst xs)) p s = (.val (.lst xs), []) := Eq.trans rfl rfl
@[scoped simp] theorem wk_tup (xs : List D) (p : Pl) : wk (.val (.tup xs)) p s = (.val (.tup xs), []) := Eq.trans rfl rfl
@[scoped simp] theorem wk_str (x : Str) (p : Pl) : wk (.val (.str x)) p s = (.val (.str x), []) := Eq.trans rfl rfl
@[scoped simp] theorem wk_scr (x : List Int) (p : Pl) : wk (.val (.scr x)) p s = (.val (.scr x), []) := Eq.trans rfl rfl
@[scoped simp] theorem wk_ol (xs : List D) (p : Pl) : wk (.ol xs) p s = (.ol xs, p.walk) := Eq.trans rfl rfl
@[scoped simp] theorem walk_tmp : Pl.walk .tmp = [] := Eq.trans rfl rfl
@[scoped simp] theorem walk_slot (i : Nat) : Pl.walk (.slot i) = [.slot i] := Eq.trans rfl rfl
@[scoped simp] theorem walk_fld (n : Nat) (f : String) : Pl.walk (.fld n f) = [.ent n] := Eq.trans rfl rfl
@[scoped simp] theorem items_ol (xs : List D) : items (.ol xs) = some xs := Eq.trans rfl rfl
@[scoped simp] theorem items_lst (xs : List D) : items (.val (.lst xs)) = some xs := Eq.trans rfl rfl
@[scoped simp] theorem items_tup (xs : List D) : items (.val (.tup xs)) = some xs := Eq.trans rfl rfl
@[scoped simp] theorem items_str (x : Str) : items (.val (.str x)) = some (signs x) := Eq.trans rfl rfl
theorem itK_def (x : M × Pl) : itK x e s = match items (wk x.1 x.2 s).1 with
  | some xs => .ok (xs, (wk x.1 x.2 s).2) e s
  | none => .bad := Eq.trans rfl rfl
@[scoped simp] theorem itK_ol (xs : List D) (p : Pl) : itK (.ol xs, p) e s = .ok (xs, p.walk) e s := Eq.trans rfl rfl
@[scoped simp] theorem itK_lst (xs : List D) (p : Pl) : itK (.val (.lst xs), p) e s = .ok (xs, []) e s := Eq.trans rfl rfl
@[scoped simp] theorem itK_tup (xs : List D) (p : Pl) : itK (.val (.tup xs), p) e s = .ok (xs, []) e s := Eq.trans rfl rfl
@[scoped simp] theorem itK_str (x : Str) (p : Pl) : itK (.val (.str x), p) e s = .ok (signs x, []) e s := Eq.trans rfl rfl
theorem itK_loc {n v : Nat} {xs : List D} (p : Pl) (h : s[n]? = some ⟨.lst xs, v⟩) : itK (.val (.loc n), p) e s = .ok (xs, [.ent n]) e s := by
  rw [itK_def, wk_loc, h]
  rfl
/-! loops -/
theorem rng_nil {i j : Int} (h : j ≤ i) : rng i j = [] := by
  unfold rng
  rw [show (j - i).toNat = 0 by omega]
  rfl
theorem rng_cons {i j : Int} (h : i < j) : rng i j = .int i :: rng (i + 1) j := by
  unfold rng
  rw [show (j - i).toNat = (j - (i + 1)).toNat + 1 by omega, List.range_succ_eq_map, List.map_cons, List.map_map]
  congr 1
  · simp
  · apply List.map_congr_left
    intro k _
    simp
    omega
/-- a walk that may end early, at a thing that p tells -/
theorem forL_find {src : List Src} {s0 : Store} {tg : Tg} {body : Env → Store → Res Flow} {Inv : Env → Prop} {p : D → Bool} {r : D → M} (hs : still src s0 s = true) : ∀ {l : List D} {e : Env}, (∀ x ∈ l, ∀ e, Inv e → ∃ e1, store tg (.val x) e = some e1 ∧ ((p x = true ∧ ∃ e2, body e1 s = .ok (.ret (r x)) e2 s) ∨ (p x = false ∧ ∃ e2, body e1 s = .ok .nx e2 s ∧ Inv e2))) → Inv e →
    (∃ x e', l.find? p = some x ∧ forL src s0 tg body l e s = .ok (.ret (r x)) e' s) ∨ (∃ e', l.find? p = none ∧ forL src s0 tg body l e s = .ok .nx e' s ∧ Inv e')
  | [], e, _, h => .inr ⟨e, rfl, if_pos hs, h⟩
  | x :: l, e, st, h => by
    obtain ⟨e1, h1, h2⟩ := st x (List.mem_cons_self ..) e h
    rw [forL_cons, if_pos hs, h1, List.find?_cons]
    dsimp only
    rcases h2 with ⟨hp, e2, h2⟩ | ⟨hp, e2, h2, hi⟩
    · rw [hp, h2]
      exact .inl ⟨x, e2, rfl, rfl⟩
    · rw [hp, h2]
      exact forL_find hs (fun y hy => st y (List.mem_cons_of_mem _ hy)) hi
/-- a comprehension with a test -/
theorem lc_filter {src : List Src} {s0 : Store} {own : List Nat} {tg : Tg} {test : Env → Store → Res Bool} {elt : Env → Store → Res D} {p : D → Bool} {g : D → D} (hs : still src s0 s = true) : ∀ {l : List D} (acc : List D), (∀ x ∈ l, ∃ e1 e2, store tg (.val x) e = some e1 ∧ test e1 s = .ok (p x) e2 s ∧ (if p x = true then ∃ e3, elt e2 s = .ok (g x) e3 s ∧ wipe e3 own = e else wipe e2 own = e)) →
    lcL src s0 own tg test elt l acc e s = .ok (acc ++ (l.filter p).map g) e s
  | [], acc, _ => by
    rw [List.filter_nil, List.map_nil, List.append_nil]
    exact if_pos hs
  | x :: l, acc, h => by
    obtain ⟨e1, e2, h1, h2, h3⟩ := h x (List.mem_cons_self ..)
    have ih := fun acc => lc_filter (p := p) (g := g) (elt := elt) (test := test) (tg := tg) (own := own) hs (l := l) acc fun y hy => h y (List.mem_cons_of_mem _ hy)
    unfold lcL
    rw [if_pos hs, h1]
    dsimp only
    rw [h2, List.filter_cons]
    simp only [quiet_ok', bind_ok]
    cases hp : p x with
    | true =>
      rw [hp, if_pos rfl] at h3
      obtain ⟨e3, h3, h4⟩ := h3
      simp only [if_true, h3, quiet_ok', bind_ok, h4]
      rw [ih, List.map_cons, List.append_assoc]
      rfl
    | false =>
      rw [hp] at h3
      simp only [Bool.false_eq_true, if_false] at h3 ⊢
      rw [h3, ih]
/-! equality with an empty list -/
theorem lay_ints (ns : List Int) : (D.lst (ns.map .int)).lay = true := by
  show (toPy (.lst (ns.map .int))).canLay0 = true
  unfold toPy PySem.PyData.canLay0
  induction ns with
  | nil => rfl
  | cons n ns ih => simp only [List.map_cons, toPys, toPy, PySem.PyData.canLayAll0, PySem.PyData.canLay0, ih, Bool.and_self]
theorem lay_strs : ∀ {ns : List Str}, (∀ n ∈ ns, (D.str n).lay = true) → (D.lst (ns.map .str)).lay = true
  | [], _ => rfl
  | n :: ns, h => by
    have h1 : (toPy (.str n)).canLay0 = true := h n (List.mem_cons_self ..)
    have h2 : (toPy (.lst (ns.map .str))).canLay0 = true := lay_strs fun m hm => h m (List.mem_cons_of_mem _ hm)
    show (toPy (.lst ((n :: ns).map .str))).canLay0 = true
    unfold toPy PySem.PyData.canLay0 at h2 ⊢
    simp only [List.map_cons, toPys, PySem.PyData.canLayAll0, h1, h2, Bool.and_self]
theorem eqv_L0 (xs : List D) : eqv (.lst xs) (.lst []) = xs.isEmpty := by cases xs <;> rfl
theorem eq_L0 {a : M} {xs : List D} (ha : a.frz = .lst xs) (h : (D.lst xs).lay = true) : cmp .eq a (.ol []) = some xs.isEmpty := by
  show eqB a.frz (.lst []) = _
  rw [ha]
  show (if cmpOk (.lst xs) (.lst []) = true then some (eqv (.lst xs) (.lst [])) else none) = _
  have hk : cmpOk (.lst xs) (.lst []) = true := by
    unfold cmpOk
    rw [h, show (D.lst []).lay = true from rfl, Bool.true_and, Bool.true_and]
    exact decide_eq_true (Nat.le_trans (Nat.min_le_right _ _) (show (D.lst []).deep ≤ 64 by decide))
  rw [if_pos hk, eqv_L0]
theorem ne_L0 {a : M} {xs : List D} (ha : a.frz = .lst xs) (h : (D.lst xs).lay = true) : cmp .ne a (.ol []) = some (!xs.isEmpty) := by
  show (cmp .eq a (.ol [])).map _ = _
  rw [eq_L0 ha h]
  rfl
end
end OI.Y

/-! OIy3: more rules to reckon a run: slices, sorting, the caught exception; drawing goes on. -/
namespace OI.Y
open PySem (Str)
theorem cut_take (xs : List D) (n : Nat) : cutD xs none (some (n : Int)) = xs.take n := by
  unfold cutD HT.sIx
  simp
  rw [if_neg (by omega)]
  omega
theorem cut_drop (xs : List D) (n : Nat) : cutD xs (some (n : Int)) none = xs.drop n := by
  unfold cutD HT.sIx
  simp
  rw [if_neg (by omega)]
  by_cases h : n ≤ xs.length
  · rw [Nat.min_eq_left h, List.take_of_length_le (by rw [List.length_drop]; omega)]
  · rw [Nat.min_eq_right (by omega), List.drop_eq_nil_of_le (Nat.le_refl _), List.drop_eq_nil_of_le (by omega), List.take_nil]
@[scoped simp] theorem slice_ol (xs : List D) (lo hi : Option Int) : slice (.ol xs) lo hi = some (.ol (cutD xs lo hi)) := Eq.trans rfl rfl
@[scoped simp] theorem slice_lst (xs : List D) (lo hi : Option Int) : slice (.val (.lst xs)) lo hi = some (.ol (cutD xs lo hi)) := Eq.trans rfl rfl
@[scoped simp] theorem pairs_ol (xs ys : List D) : pairs (.ol xs) (.val (.lst ys)) = some ((xs.zip ys).map fun p => .tup [p.1, p.2]) := Eq.trans rfl rfl
@[scoped simp] theorem ints_map (ns : List Int) : ints? (ns.map .int) = some ns := by
  induction ns with
  | nil => rfl
  | cons a r ih =>
    show (ints? (r.map .int)).map (a :: ·) = _
    rw [ih]; rfl
@[scoped simp] theorem sorted_ol (ns : List Int) : bi1 "sorted" (.ol (ns.map .int)) = some (.ol ((sortI ns).map .int)) := by
  show (match (M.lst? (.ol (ns.map .int))).bind ints? with | some ns => some (M.ol ((sortI ns).map .int)) | none => none) = _
  show (match ints? (ns.map .int) with | some ns => some (M.ol ((sortI ns).map .int)) | none => none) = _
  rw [ints_map]
@[scoped simp] theorem sorted_lst (ns : List Int) : bi1 "sorted" (.val (.lst (ns.map .int))) = some (.ol ((sortI ns).map .int)) := by
  show (match ints? (ns.map .int) with | some ns => some (M.ol ((sortI ns).map .int)) | none => none) = _
  rw [ints_map]
@[scoped simp] theorem list_ol (xs : List D) : bi1 "list" (.ol xs) = some (.ol xs) := Eq.trans rfl rfl
@[scoped simp] theorem list_lst (xs : List D) : bi1 "list" (.val (.lst xs)) = some (.ol xs) := Eq.trans rfl rfl
theorem add_olol (xs ys : List D) : bin .add (.ol xs) (.ol ys) = if xs.length + ys.length ≤ LIM then some (.ol (xs ++ ys)) else none := rfl
theorem bm1_cnt (ys : List D) (b : Bool) : bm1 "count" (.ol ys) (.val (.bl b)) = if ys.all (fun y => match y with | .bl _ => true | _ => false) then some (.val (.int (ys.countP fun y => decide (y = .bl b)))) else none := rfl
theorem bm1_idx (ys : List D) (d : D) : bm1 "index" (.ol ys) (.val d) = if d.flat && ys.all D.flat then (findIx d ys 0).map fun i => .val (.int i) else none := by
  show (if (d.flat && ys.all D.flat) = true then Option.map (fun i : Int => M.val (.int i)) (Option.bind (findIx d ys 0) fun a => some (a : Int)) else none) = _
  cases findIx d ys 0 <;> rfl
theorem eqv_bl (a b : Bool) : eqv (.bl a) (.bl b) = (a == b) := by cases a <;> cases b <;> rfl
theorem tyIs_own (s : Store) (c k : String) : tyIs s (.exn c) (.own k) = some (isSub c k) := rfl
@[scoped simp] theorem tyIs_ve (s : Store) (c : String) : tyIs s (.exn c) .valueError = some true := Eq.trans rfl rfl
theorem Dr.trans {ns : List Int} {s s1 s2 : Store} (a : Dr ns s s1) (b : Dr ns s1 s2) : Dr ns s s2 := by
  obtain ⟨_, e1, rfl⟩ := a
  obtain ⟨h, e2, rfl⟩ := b
  exact ⟨h, e2, by rw [List.set_set]⟩
theorem Dr.refl {ns : List Int} {s : Store} (h : St ns s) : Dr ns s s := by
  refine ⟨h, ?_⟩
  obtain ⟨pos, mixed, rest, v, h0, hp⟩ := h
  exact ⟨⟨.lst [.scr ns, .int pos, .int mixed, .int rest], v⟩, by
    apply List.ext_getElem?
    intro i
    by_cases hi : i = 0
    · subst hi
      rw [List.getElem?_set_self (List.getElem?_eq_some_iff.mp h0).1, h0]
    · rw [List.getElem?_set_ne (Ne.symm hi)]⟩
theorem Dr.len {ns : List Int} {s s' : Store} (h : Dr ns s s') : s'.length = s.length := by
  obtain ⟨_, e, rfl⟩ := h
  rw [List.length_set]
theorem atI_mem {α : Type} {xs : List α} {k : Int} (h0 : 0 ≤ k) (h1 : k < xs.length) : ∃ v ∈ xs, L2.atI xs k = some v := by
  refine ⟨xs[k.toNat]'(by omega), List.getElem_mem _, ?_⟩
  rw [atI_at (k := k.toNat) (by omega) (by omega)]
  exact List.getElem?_eq_getElem _
end OI.Y

/-! BX1: boxes and their worlds, in plain Lean: the tight box by sums is the tight box of the worlds. -/
namespace OI.Y
/-- a world between lows and highs -/
def inBox : List (Int × Int) → List Int → Prop
  | [], [] => True
  | p :: ps, x :: w => p.1 ≤ x ∧ x ≤ p.2 ∧ inBox ps w
  | _, _ => False
def lows (ps : List (Int × Int)) : List Int := ps.map (·.1)
def highs (ps : List (Int × Int)) : List Int := ps.map (·.2)
def BOk (ps : List (Int × Int)) : Prop := ∀ p ∈ ps, p.1 ≤ p.2
theorem inBox_len : ∀ {ps : List (Int × Int)} {w : List Int}, inBox ps w → w.length = ps.length
  | [], [], _ => rfl
  | p :: ps, x :: w, h => by rw [List.length_cons, List.length_cons, inBox_len h.2.2]
  | [], _ :: _, h => h.elim
  | _ :: _, [], h => h.elim
theorem inBox_sum : ∀ {ps : List (Int × Int)} {w : List Int}, inBox ps w → (lows ps).sum ≤ w.sum ∧ w.sum ≤ (highs ps).sum
  | [], [], _ => ⟨Int.le_refl _, Int.le_refl _⟩
  | p :: ps, x :: w, h => by
    obtain ⟨h1, h2⟩ := inBox_sum h.2.2
    obtain ⟨h3, h4, _⟩ := h
    simp only [lows, highs, List.map_cons, List.sum_cons] at h1 h2 ⊢
    omega
  | [], _ :: _, h => h.elim
  | _ :: _, [], h => h.elim
theorem BOk.tail {p : Int × Int} {ps : List (Int × Int)} (h : BOk (p :: ps)) : p.1 ≤ p.2 ∧ BOk ps := ⟨h p (List.mem_cons_self ..), fun q hq => h q (List.mem_cons_of_mem _ hq)⟩
theorem BOk.sum : ∀ {ps : List (Int × Int)}, BOk ps → (lows ps).sum ≤ (highs ps).sum
  | [], _ => Int.le_refl _
  | p :: ps, h => by
    have h1 := BOk.sum h.tail.2
    have h2 := h.tail.1
    simp only [lows, highs, List.map_cons, List.sum_cons] at h1 ⊢
    omega
/-- every sum between is a world's -/
theorem inBox_ivt : ∀ {ps : List (Int × Int)} {t : Int}, BOk ps → (lows ps).sum ≤ t → t ≤ (highs ps).sum → ∃ w, inBox ps w ∧ w.sum = t
  | [], t, _, h1, h2 => ⟨[], trivial, by simp only [lows, highs, List.map_nil, List.sum_nil] at *; omega⟩
  | p :: ps, t, h, h1, h2 => by
    have hs := BOk.sum h.tail.2
    have hp := h.tail.1
    simp only [lows, highs, List.map_cons, List.sum_cons] at h1 h2 hs
    obtain ⟨w, h3, h4⟩ := inBox_ivt (ps := ps) (t := t - max p.1 (t - (highs ps).sum)) h.tail.2 (by simp only [lows, highs]; omega) (by simp only [highs]; omega)
    refine ⟨max p.1 (t - (highs ps).sum) :: w, ⟨by omega, by simp only [highs]; omega, h3⟩, by rw [List.sum_cons, h4]; omega⟩
theorem inBox_get : ∀ {ps : List (Int × Int)} {w : List Int} {k : Nat} {p : Int × Int}, inBox ps w → ps[k]? = some p → ∃ x, w[k]? = some x ∧ p.1 ≤ x ∧ x ≤ p.2
  | [], [], k, p, _, e => by simp at e
  | q :: ps, x :: w, 0, p, h, e => by
    simp at e
    subst e
    exact ⟨x, rfl, h.1, h.2.1⟩
  | q :: ps, x :: w, k + 1, p, h, e => by
    simp at e
    obtain ⟨y, h1, h2⟩ := inBox_get h.2.2 e
    exact ⟨y, by simpa using h1, h2⟩
  | [], _ :: _, _, _, h, _ => h.elim
  | _ :: _, [], _, _, h, _ => h.elim
theorem inBox_lows : ∀ {ps : List (Int × Int)}, BOk ps → inBox ps (lows ps) ∧ inBox ps (highs ps)
  | [], _ => ⟨trivial, trivial⟩
  | p :: ps, h => by
    obtain ⟨h1, h2⟩ := inBox_lows h.tail.2
    exact ⟨⟨Int.le_refl _, h.tail.1, h1⟩, ⟨h.tail.1, Int.le_refl _, h2⟩⟩
/-- another number at a place -/
theorem sum_set : ∀ {ps : List (Int × Int)} {k : Nat} {p q : Int × Int}, ps[k]? = some p → (lows (ps.set k q)).sum = (lows ps).sum - p.1 + q.1 ∧ (highs (ps.set k q)).sum = (highs ps).sum - p.2 + q.2
  | [], k, p, q, e => by simp at e
  | r :: ps, 0, p, q, e => by
    simp at e
    subst e
    simp only [lows, highs, List.set_cons_zero, List.map_cons, List.sum_cons]
    omega
  | r :: ps, k + 1, p, q, e => by
    simp at e
    obtain ⟨h1, h2⟩ := sum_set (q := q) e
    simp only [lows, highs, List.set_cons_succ, List.map_cons, List.sum_cons] at h1 h2 ⊢
    omega
theorem BOk.set {ps : List (Int × Int)} {k : Nat} {q : Int × Int} (h : BOk ps) (hq : q.1 ≤ q.2) : BOk (ps.set k q) := fun r hr => by
  rcases List.mem_or_eq_of_mem_set hr with z | z
  · exact h r z
  · rw [z]; exact hq
theorem inBox_unset : ∀ {ps : List (Int × Int)} {w : List Int} {k : Nat} {p q : Int × Int}, ps[k]? = some p → p.1 ≤ q.1 → q.2 ≤ p.2 → inBox (ps.set k q) w → inBox ps w ∧ ∃ x, w[k]? = some x ∧ q.1 ≤ x ∧ x ≤ q.2
  | [], w, k, p, q, e, _, _, h => by simp at e
  | r :: ps, [], k, p, q, e, _, _, h => by cases k <;> exact h.elim
  | r :: ps, x :: w, 0, p, q, e, h1, h2, h => by
    simp at e
    subst e
    have h : q.1 ≤ x ∧ x ≤ q.2 ∧ inBox ps w := h
    exact ⟨⟨by omega, by omega, h.2.2⟩, x, rfl, h.1, h.2.1⟩
  | r :: ps, x :: w, k + 1, p, q, e, h1, h2, h => by
    simp at e
    have h : r.1 ≤ x ∧ x ≤ r.2 ∧ inBox (ps.set k q) w := h
    obtain ⟨g1, y, g2, g3⟩ := inBox_unset e h1 h2 h.2.2
    exact ⟨⟨h.1, h.2.1, g1⟩, y, by simpa using g2, g3⟩
theorem inBox_set : ∀ {ps : List (Int × Int)} {w : List Int} {k : Nat} {q : Int × Int} {x : Int}, inBox ps w → w[k]? = some x → q.1 ≤ x → x ≤ q.2 → inBox (ps.set k q) w
  | [], [], k, q, x, _, e, _, _ => by simp at e
  | r :: ps, y :: w, 0, q, x, h, e, h1, h2 => by
    simp at e
    subst e
    exact ⟨h1, h2, h.2.2⟩
  | r :: ps, y :: w, k + 1, q, x, h, e, h1, h2 => by
    simp at e
    exact ⟨h.1, h.2.1, inBox_set h.2.2 e h1 h2⟩
  | [], _ :: _, _, _, _, h, _, _, _ => h.elim
  | _ :: _, [], _, _, _, h, _, _, _ => h.elim
/-- a world of a box, with a total or any -/
def IsW (ps : List (Int × Int)) (t : Option Int) (w : List Int) : Prop := inBox ps w ∧ ∀ z, t = some z → w.sum = z
/-- the tight box by sums -/
def narB (ps : List (Int × Int)) (t : Option Int) : Option (List (Int × Int)) :=
  match t with
  | none => some ps
  | some z => if (lows ps).sum ≤ z ∧ z ≤ (highs ps).sum then some (ps.map fun p => (max p.1 (z - ((highs ps).sum - p.2)), min p.2 (z - ((lows ps).sum - p.1)))) else none
/-- the least and the greatest of some worlds -/
structure Tt (qs : List (Int × Int)) (A : List Int → Prop) : Prop where
  len : ∀ w, A w → w.length = qs.length
  lo : ∀ (k : Nat) (q : Int × Int), qs[k]? = some q → ∃ w, A w ∧ w[k]? = some q.1
  hi : ∀ (k : Nat) (q : Int × Int), qs[k]? = some q → ∃ w, A w ∧ w[k]? = some q.2
  all : ∀ (k : Nat) (q : Int × Int) (w : List Int) (x : Int), qs[k]? = some q → A w → w[k]? = some x → q.1 ≤ x ∧ x ≤ q.2
theorem inBox_of : ∀ {qs : List (Int × Int)} {w : List Int}, w.length = qs.length → (∀ (k : Nat) (q : Int × Int) (x : Int), qs[k]? = some q → w[k]? = some x → q.1 ≤ x ∧ x ≤ q.2) → inBox qs w
  | [], [], _, _ => trivial
  | q :: qs, x :: w, hl, h => by
    have h0 := h 0 q x rfl rfl
    exact ⟨h0.1, h0.2, inBox_of (by simpa using hl) fun k q' x' e1 e2 => h (k + 1) q' x' (by simpa using e1) (by simpa using e2)⟩
  | [], _ :: _, hl, _ => by simp at hl
  | _ :: _, [], hl, _ => by simp at hl
theorem Tt.sub {qs : List (Int × Int)} {A : List Int → Prop} (h : Tt qs A) {w : List Int} (hw : A w) : inBox qs w := inBox_of (h.len w hw) fun k q x e1 e2 => h.all k q w x e1 hw e2
theorem Tt.ok {qs : List (Int × Int)} {A : List Int → Prop} (h : Tt qs A) : BOk qs := fun q hq => by
  obtain ⟨k, e⟩ := List.getElem?_of_mem hq
  obtain ⟨w, h1, h2⟩ := h.lo k q e
  exact (h.all k q w _ e h1 h2).2
/-- THE LAW: the tight box by sums is that of the worlds; where there is none there is no world -/
theorem narB_some {ps qs : List (Int × Int)} {t : Option Int} (ok : BOk ps) (h : narB ps t = some qs) : Tt qs (IsW ps t) := by
  unfold narB at h
  cases t with
  | none =>
    cases h
    have hb := inBox_lows ok
    refine ⟨fun w hw => inBox_len hw.1, fun k q e => ⟨lows ps, ⟨hb.1, fun z e => by cases e⟩, ?_⟩, fun k q e => ⟨highs ps, ⟨hb.2, fun z e => by cases e⟩, ?_⟩, fun k q w x e hw hx => ?_⟩
    · unfold lows
      rw [List.getElem?_map, e]
      rfl
    · unfold highs
      rw [List.getElem?_map, e]
      rfl
    · obtain ⟨y, h1, h2⟩ := inBox_get hw.1 e
      rw [hx] at h1
      cases h1
      exact h2
  | some z =>
    dsimp only at h
    split at h
    · rename_i hz
      cases h
      have hs := ok.sum
      have at_ : ∀ {k : Nat} {q : Int × Int}, (ps.map fun p => (max p.1 (z - ((highs ps).sum - p.2)), min p.2 (z - ((lows ps).sum - p.1))))[k]? = some q → ∃ p, ps[k]? = some p ∧ p.1 ≤ p.2 ∧ q = (max p.1 (z - ((highs ps).sum - p.2)), min p.2 (z - ((lows ps).sum - p.1))) := fun {k q} e => by
        rw [List.getElem?_map] at e
        cases e2 : ps[k]? with
        | none => rw [e2] at e; cases e
        | some p =>
          rw [e2] at e
          cases e
          exact ⟨p, rfl, ok p (List.mem_of_getElem? e2), rfl⟩
      have mk : ∀ {k : Nat} {p : Int × Int} (a : Int), ps[k]? = some p → p.1 ≤ a → a ≤ p.2 → (lows ps).sum - p.1 + a ≤ z → z ≤ (highs ps).sum - p.2 + a → ∃ w, IsW ps (some z) w ∧ w[k]? = some a := fun {k p} a e h1 h2 h3 h4 => by
        obtain ⟨s1, s2⟩ := sum_set (q := (a, a)) e
        obtain ⟨w, g1, g2⟩ := inBox_ivt (ps := ps.set k (a, a)) (t := z) (ok.set (Int.le_refl _)) (by rw [s1]; exact h3) (by rw [s2]; exact h4)
        obtain ⟨g3, x, g4, g5, g6⟩ := inBox_unset e h1 h2 g1
        have : x = a := by dsimp only at g5 g6; omega
        subst this
        exact ⟨w, ⟨g3, fun z' e => by cases e; exact g2⟩, g4⟩
      have diff : ∀ {k : Nat} {p : Int × Int}, ps[k]? = some p → (lows ps).sum - p.1 ≤ (highs ps).sum - p.2 := fun {k p} e => by
        obtain ⟨s1, s2⟩ := sum_set (q := ((0 : Int), (0 : Int))) e
        have := (ok.set (k := k) (q := ((0 : Int), (0 : Int))) (Int.le_refl _)).sum
        rw [s1, s2] at this
        dsimp only at this
        omega
      refine ⟨fun w hw => by rw [List.length_map]; exact inBox_len hw.1, fun k q e => ?_, fun k q e => ?_, fun k q w x e hw hx => ?_⟩
      · obtain ⟨p, e1, e2, rfl⟩ := at_ e
        have := diff e1
        exact mk _ e1 (by dsimp only; omega) (by dsimp only; omega) (by dsimp only; omega) (by dsimp only; omega)
      · obtain ⟨p, e1, e2, rfl⟩ := at_ e
        have := diff e1
        exact mk _ e1 (by dsimp only; omega) (by dsimp only; omega) (by dsimp only; omega) (by dsimp only; omega)
      · obtain ⟨p, e1, e2, rfl⟩ := at_ e
        obtain ⟨y, h1, h2, h3⟩ := inBox_get hw.1 e1
        rw [hx] at h1
        cases h1
        have hsum := hw.2 z rfl
        obtain ⟨s1, s2⟩ := sum_set (q := (x, x)) e1
        obtain ⟨b1, b2⟩ := inBox_sum (inBox_set (q := (x, x)) hw.1 hx (Int.le_refl _) (Int.le_refl _))
        rw [s1] at b1
        rw [s2] at b2
        dsimp only at b1 b2 ⊢
        omega
    · cases h
theorem narB_none {ps : List (Int × Int)} {t : Option Int} (h : narB ps t = none) : ∀ w, ¬ IsW ps t w := fun w hw => by
  unfold narB at h
  cases t with
  | none => cases h
  | some z =>
    dsimp only at h
    split at h
    · cases h
    · rename_i hz
      obtain ⟨b1, b2⟩ := inBox_sum hw.1
      rw [hw.2 z rfl] at b1 b2
      exact hz ⟨b1, b2⟩
theorem narB_ex {ps qs : List (Int × Int)} {t : Option Int} (ok : BOk ps) (h : narB ps t = some qs) : ∃ w, IsW ps t w := by
  unfold narB at h
  cases t with
  | none => exact ⟨lows ps, (inBox_lows ok).1, fun z e => by cases e⟩
  | some z =>
    dsimp only at h
    split at h
    · rename_i hz
      obtain ⟨w, h1, h2⟩ := inBox_ivt ok hz.1 hz.2
      exact ⟨w, h1, fun z' e => by cases e; exact h2⟩
    · cases h
theorem narB_len {ps qs : List (Int × Int)} {t : Option Int} (h : narB ps t = some qs) : qs.length = ps.length := by
  unfold narB at h
  cases t with
  | none => cases h; rfl
  | some z =>
    dsimp only at h
    split at h
    · cases h
      rw [List.length_map]
    · cases h
/-- the tight box lies in the box -/
theorem narB_in {ps qs : List (Int × Int)} {t : Option Int} (ok : BOk ps) (h : narB ps t = some qs) {w : List Int} : IsW qs t w ↔ IsW ps t w := by
  have T := narB_some ok h
  refine ⟨fun hw => ⟨?_, hw.2⟩, fun hw => ⟨T.sub hw, hw.2⟩⟩
  refine inBox_of (by rw [inBox_len hw.1, narB_len h]) fun k p x e1 e2 => ?_
  have hk : k < qs.length := by rw [narB_len h]; exact (List.getElem?_eq_some_iff.mp e1).1
  have e3 := List.getElem?_eq_getElem hk
  obtain ⟨y, g1, g2⟩ := inBox_get hw.1 e3
  rw [e2] at g1
  cases g1
  obtain ⟨w1, a1, a2⟩ := T.lo k _ e3
  obtain ⟨w2, b1, b2⟩ := T.hi k _ e3
  obtain ⟨_, c1, c2⟩ := inBox_get a1.1 e1
  obtain ⟨_, d1, d2⟩ := inBox_get b1.1 e1
  rw [a2] at c1
  rw [b2] at d1
  cases c1
  cases d1
  omega
/-- behind a look that may be asked: yes, no -/
theorem yes_of {ps qs : List (Int × Int)} {t : Option Int} (ok : BOk ps) (h : narB ps t = some qs) {k : Nat} {q : Int × Int} (e : qs[k]? = some q) {m : Int} (h1 : q.1 < m) (h2 : m ≤ q.2) :
    ∃ ys, narB (qs.set k (m, q.2)) t = some ys ∧ Tt ys fun w => IsW ps t w ∧ ∃ x, w[k]? = some x ∧ m ≤ x := by
  have T := narB_some ok h
  have okq := T.ok
  have oks : BOk (qs.set k (m, q.2)) := okq.set h2
  have iff : ∀ w, IsW (qs.set k (m, q.2)) t w ↔ IsW ps t w ∧ ∃ x, w[k]? = some x ∧ m ≤ x := fun w => by
    refine ⟨fun hw => ?_, fun hw => ?_⟩
    · obtain ⟨g1, x, g2, g3, g4⟩ := inBox_unset e (show q.1 ≤ (m, q.2).1 by dsimp only; omega) (Int.le_refl _) hw.1
      exact ⟨(narB_in ok h).mp ⟨g1, hw.2⟩, x, g2, g3⟩
    · obtain ⟨hw, x, hx, hm⟩ := hw
      have h3 := (narB_in ok h).mpr hw
      obtain ⟨y, g1, g2⟩ := inBox_get h3.1 e
      rw [hx] at g1
      cases g1
      exact ⟨inBox_set h3.1 hx hm g2.2, hw.2⟩
  cases hn : narB (qs.set k (m, q.2)) t with
  | none =>
    obtain ⟨w, g1, g2⟩ := T.hi k q e
    exact absurd ((iff w).mpr ⟨g1, _, g2, h2⟩) (narB_none hn w)
  | some ys =>
    have Ty := narB_some oks hn
    exact ⟨ys, rfl, fun w hw => Ty.len w ((iff w).mpr hw), fun j p e => let ⟨w, a, b⟩ := Ty.lo j p e; ⟨w, (iff w).mp a, b⟩, fun j p e => let ⟨w, a, b⟩ := Ty.hi j p e; ⟨w, (iff w).mp a, b⟩, fun j p w x e1 hw hx => Ty.all j p w x e1 ((iff w).mpr hw) hx⟩
theorem no_of {ps qs : List (Int × Int)} {t : Option Int} (ok : BOk ps) (h : narB ps t = some qs) {k : Nat} {q : Int × Int} (e : qs[k]? = some q) {m : Int} (h1 : q.1 < m) (h2 : m ≤ q.2) :
    ∃ ys, narB (qs.set k (q.1, m - 1)) t = some ys ∧ Tt ys fun w => IsW ps t w ∧ ∃ x, w[k]? = some x ∧ x < m := by
  have T := narB_some ok h
  have okq := T.ok
  have oks : BOk (qs.set k (q.1, m - 1)) := okq.set (show q.1 ≤ m - 1 by omega)
  have iff : ∀ w, IsW (qs.set k (q.1, m - 1)) t w ↔ IsW ps t w ∧ ∃ x, w[k]? = some x ∧ x < m := fun w => by
    refine ⟨fun hw => ?_, fun hw => ?_⟩
    · obtain ⟨g1, x, g2, g3, g4⟩ := inBox_unset (q := (q.1, m - 1)) e (Int.le_refl _) (by dsimp only; omega) hw.1
      exact ⟨(narB_in ok h).mp ⟨g1, hw.2⟩, x, g2, by dsimp only at g4; omega⟩
    · obtain ⟨hw, x, hx, hm⟩ := hw
      have h3 := (narB_in ok h).mpr hw
      obtain ⟨y, g1, g2⟩ := inBox_get h3.1 e
      rw [hx] at g1
      cases g1
      exact ⟨inBox_set h3.1 hx g2.1 (by dsimp only; omega), hw.2⟩
  cases hn : narB (qs.set k (q.1, m - 1)) t with
  | none =>
    obtain ⟨w, g1, g2⟩ := T.lo k q e
    exact absurd ((iff w).mpr ⟨g1, _, g2, h1⟩) (narB_none hn w)
  | some ys =>
    have Ty := narB_some oks hn
    exact ⟨ys, rfl, fun w hw => Ty.len w ((iff w).mpr hw), fun j p e => let ⟨w, a, b⟩ := Ty.lo j p e; ⟨w, (iff w).mp a, b⟩, fun j p e => let ⟨w, a, b⟩ := Ty.hi j p e; ⟨w, (iff w).mp a, b⟩, fun j p w x e1 hw hx => Ty.all j p w x e1 ((iff w).mpr hw) hx⟩
/-! ### the worlds, gone through -/
def upto (l h : Int) : List Int := (List.range (h + 1 - l).toNat).map fun k => l + (k : Nat)
theorem upto_mem {l h x : Int} : x ∈ upto l h ↔ l ≤ x ∧ x ≤ h := by
  unfold upto
  rw [List.mem_map]
  refine ⟨fun ⟨k, h1, h2⟩ => ?_, fun h1 => ⟨(x - l).toNat, ?_, ?_⟩⟩
  · rw [List.mem_range] at h1
    omega
  · rw [List.mem_range]
    omega
  · omega
theorem upto_len (l h : Int) : (upto l h).length = (h + 1 - l).toNat := by
  unfold upto
  rw [List.length_map, List.length_range]
def longer (ws : List (List Int)) (p : Int × Int) : List (List Int) := ws.flatMap fun w => (upto p.1 p.2).map fun m => w ++ [m]
def allW (ps : List (Int × Int)) : List (List Int) := ps.foldl longer [[]]
theorem longer_mem {ws : List (List Int)} {p : Int × Int} {w : List Int} : w ∈ longer ws p ↔ ∃ a x, a ∈ ws ∧ p.1 ≤ x ∧ x ≤ p.2 ∧ w = a ++ [x] := by
  unfold longer
  rw [List.mem_flatMap]
  constructor
  · rintro ⟨a, h1, h2⟩
    obtain ⟨x, h3, h4⟩ := List.mem_map.mp h2
    exact ⟨a, x, h1, (upto_mem.mp h3).1, (upto_mem.mp h3).2, h4.symm⟩
  · rintro ⟨a, x, h1, h2, h3, rfl⟩
    exact ⟨a, h1, List.mem_map.mpr ⟨x, upto_mem.mpr ⟨h2, h3⟩, rfl⟩⟩
theorem fold_mem : ∀ {ps : List (Int × Int)} {ws : List (List Int)} {w : List Int}, w ∈ ps.foldl longer ws ↔ ∃ a b, a ∈ ws ∧ inBox ps b ∧ w = a ++ b
  | [], ws, w => by
    rw [List.foldl_nil]
    refine ⟨fun h => ⟨w, [], h, trivial, by simp⟩, ?_⟩
    rintro ⟨a, b, h1, h2, rfl⟩
    cases b with
    | nil => simpa using h1
    | cons x b => exact h2.elim
  | p :: ps, ws, w => by
    rw [List.foldl_cons, fold_mem]
    constructor
    · rintro ⟨a, b, h1, h2, rfl⟩
      obtain ⟨c, x, h3, h4, h5, rfl⟩ := longer_mem.mp h1
      exact ⟨c, x :: b, h3, ⟨h4, h5, h2⟩, by simp⟩
    · rintro ⟨a, b, h1, h2, rfl⟩
      cases b with
      | nil => exact h2.elim
      | cons x b => exact ⟨a ++ [x], b, longer_mem.mpr ⟨a, x, h1, h2.1, h2.2.1, rfl⟩, h2.2.2, by simp⟩
theorem allW_mem {ps : List (Int × Int)} {w : List Int} : w ∈ allW ps ↔ inBox ps w := by
  unfold allW
  rw [fold_mem]
  constructor
  · rintro ⟨a, b, h1, h2, rfl⟩
    rw [List.mem_singleton] at h1
    subst h1
    simpa using h2
  · exact fun h => ⟨[], w, List.mem_singleton.mpr rfl, h, by simp⟩
def tOk (t : Option Int) (w : List Int) : Bool := match t with
  | none => true
  | some z => decide (w.sum = z)
def wsOf (ps : List (Int × Int)) (t : Option Int) : List (List Int) := (allW ps).filter (tOk t)
theorem wsOf_mem {ps : List (Int × Int)} {t : Option Int} {w : List Int} : w ∈ wsOf ps t ↔ IsW ps t w := by
  unfold wsOf
  rw [List.mem_filter, allW_mem]
  unfold IsW tOk
  cases t with
  | none => simp
  | some z => simp
theorem wsOf_nil {ps : List (Int × Int)} {t : Option Int} (ok : BOk ps) : wsOf ps t = [] ↔ narB ps t = none := by
  constructor
  · intro h
    cases hn : narB ps t with
    | none => rfl
    | some qs =>
      obtain ⟨w, hw⟩ := narB_ex ok hn
      have := wsOf_mem.mpr hw
      rw [h] at this
      cases this
  · intro h
    cases hw : wsOf ps t with
    | nil => rfl
    | cons w r => exact absurd (wsOf_mem.mp (by rw [hw]; exact List.mem_cons_self ..)) (narB_none h w)
/-! ### least and greatest of a list -/
theorem minI_spec : ∀ (a : Int) (l : List Int), minI (a :: l) ∈ a :: l ∧ ∀ x ∈ a :: l, minI (a :: l) ≤ x
  | a, [] => ⟨by simp [minI], fun x hx => by simp [minI] at *; omega⟩
  | a, b :: l => by
    obtain ⟨h1, h2⟩ := minI_spec b l
    have e : minI (a :: b :: l) = min a (minI (b :: l)) := rfl
    rw [e]
    refine ⟨?_, fun x hx => ?_⟩
    · by_cases c : a ≤ minI (b :: l)
      · rw [Int.min_eq_left c]; exact List.mem_cons_self ..
      · rw [Int.min_eq_right (by omega)]; exact List.mem_cons_of_mem _ h1
    · rcases List.mem_cons.mp hx with rfl | hx
      · omega
      · have := h2 x hx; omega
theorem maxI_spec2 : ∀ (a : Int) (l : List Int), maxI (a :: l) ∈ a :: l ∧ ∀ x ∈ a :: l, x ≤ maxI (a :: l)
  | a, [] => ⟨by simp [maxI], fun x hx => by simp [maxI] at *; omega⟩
  | a, b :: l => by
    obtain ⟨h1, h2⟩ := maxI_spec2 b l
    have e : maxI (a :: b :: l) = max a (maxI (b :: l)) := rfl
    rw [e]
    refine ⟨?_, fun x hx => ?_⟩
    · by_cases c : a ≤ maxI (b :: l)
      · rw [Int.max_eq_right c]; exact List.mem_cons_of_mem _ h1
      · rw [Int.max_eq_left (by omega)]; exact List.mem_cons_self ..
    · rcases List.mem_cons.mp hx with rfl | hx
      · omega
      · have := h2 x hx; omega
theorem minI_eq {l : List Int} {a : Int} (h1 : a ∈ l) (h2 : ∀ x ∈ l, a ≤ x) : minI l = a := by
  cases l with
  | nil => cases h1
  | cons b l =>
    obtain ⟨g1, g2⟩ := minI_spec b l
    have := g2 a h1
    have := h2 _ g1
    omega
theorem maxI_eq {l : List Int} {a : Int} (h1 : a ∈ l) (h2 : ∀ x ∈ l, x ≤ a) : maxI l = a := by
  cases l with
  | nil => cases h1
  | cons b l =>
    obtain ⟨g1, g2⟩ := maxI_spec2 b l
    have := g2 a h1
    have := h2 _ g1
    omega
end OI.Y

/-! BX2: the program's boxes, reckoned: narrowed, is_box, tightened, tight, looks_in, answered, behind. -/
namespace OI.Y
open PySem (Str)
def F_narrowed : Fn := ⟨3, 7, (.cons (.ifs (.isN false (.var 2)) (.cons (.ret (.tup (.cons (.var 0) (.cons (.var 1) .nil))))
  .nil) .nil)
  (.cons (.ifs (.nott (.chain .le .le (.bi1 "sum" (.var 0)) (.var 2) (.bi1 "sum" (.var 1)))) (.cons (.ret (.cst .non))
  .nil) .nil)
  (.cons (.asg (.one 3) (.lst .nil))
  (.cons (.asg (.one 4) (.lst .nil))
  (.cons (.fors (.many [5, 6]) (.zip (.var 0) (.var 1)) (.cons (.mut1 "append" (.var 3) (.bi2 "max" (.var 5) (.bin .sub (.var 2) (.bin .sub (.bi1 "sum" (.var 1)) (.var 6)))))
  (.cons (.mut1 "append" (.var 4) (.bi2 "min" (.var 6) (.bin .sub (.var 2) (.bin .sub (.bi1 "sum" (.var 0)) (.var 5)))))
  .nil)))
  (.cons (.ret (.tup (.cons (.var 3) (.cons (.var 4) .nil))))
  .nil))))))⟩
def F_is_box : Fn := ⟨1, 5, (.cons (.asg (.many [1, 2, 3]) (.var 0))
  (.cons (.ifs (.either (.nott (.chain .le .le (.cst (.int 1)) (.bi1 "len" (.var 1)) (.glob "MOST_PLACES" (.int 3)))) (.cmp .ne (.bi1 "len" (.var 1)) (.bi1 "len" (.var 2)))) (.cons (.ret (.cst (.bl false)))
  .nil) .nil)
  (.cons (.ret (.cmp .eq (.lc (.var 4) (.one 4) (.rng1 (.bi1 "len" (.var 1))) (.yes (.nott (.chain3 .le .le .le (.cst (.int 0)) (.idx (.var 1) (.var 4)) (.idx (.var 2) (.var 4)) (.glob "MOST_HIGH" (.int 7))))) [4]) (.lst .nil)))
  .nil)))⟩
def F_tightened : Fn := ⟨3, 4, (.cons (.asg (.one 3) (.call "narrowed" (.cons (.var 0) (.cons (.var 1) (.cons (.var 2) .nil)))))
  (.cons (.ret (.ife (.isN false (.var 3)) (.cst .non) (.tup (.cons (.bi1 "tuple" (.idx (.var 3) (.cst (.int 0)))) (.cons (.bi1 "tuple" (.idx (.var 3) (.cst (.int 1)))) .nil)))))
  .nil))⟩
def F_tight : Fn := ⟨1, 2, (.cons (.ifs (.nott (.call "is_box" (.cons (.var 0) .nil))) (.cons (.rais "NoBox")
  .nil) .nil)
  (.cons (.asg (.one 1) (.call "tightened" (.cons (.idx (.var 0) (.cst (.int 0))) (.cons (.idx (.var 0) (.cst (.int 1))) (.cons (.idx (.var 0) (.cst (.int 2))) .nil)))))
  (.cons (.ifs (.isN false (.var 1)) (.cons (.rais "NoWorld")
  .nil) .nil)
  (.cons (.ret (.bin .add (.var 1) (.tup (.cons (.idx (.var 0) (.cst (.int 2))) .nil))))
  .nil))))⟩
def F_looks_in : Fn := ⟨2, 5, (.cons (.asg (.one 2) (.lst .nil))
  (.cons (.fors (.one 3) (.rng1 (.bi1 "len" (.var 0))) (.cons (.mut1 "extend" (.var 2) (.lc (.tup (.cons (.var 3) (.cons (.var 4) .nil))) (.one 4) (.rng2 (.bin .add (.idx (.var 0) (.var 3)) (.cst (.int 1))) (.bin .add (.idx (.var 1) (.var 3)) (.cst (.int 1)))) .no [4]))
  .nil))
  (.cons (.ret (.var 2))
  .nil)))⟩
def F_answered : Fn := ⟨4, 7, (.cons (.asg (.many [4, 5]) (.var 3))
  (.cons (.asg (.one 6) (.call "tightened" (.cons (.bin .add (.bin .add (.slc (.var 0) .no (.yes (.var 4))) (.tup (.cons (.var 5) .nil))) (.slc (.var 0) (.yes (.bin .add (.var 4) (.cst (.int 1)))) .no)) (.cons (.var 1) (.cons (.var 2) .nil)))))
  (.cons (.ret (.tup (.cons (.var 6) (.cons (.call "tightened" (.cons (.var 0) (.cons (.bin .add (.bin .add (.slc (.var 1) .no (.yes (.var 4))) (.tup (.cons (.bin .sub (.var 5) (.cst (.int 1))) .nil))) (.slc (.var 1) (.yes (.bin .add (.var 4) (.cst (.int 1)))) .no)) (.cons (.var 2) .nil)))) .nil))))
  .nil)))⟩
def F_behind : Fn := ⟨2, 7, (.cons (.asg (.many [2, 3, 4]) (.call "tight" (.cons (.var 0) .nil)))
  (.cons (.ifs (.cmp .nin (.var 1) (.call "looks_in" (.cons (.var 2) (.cons (.var 3) .nil)))) (.cons (.rais "NotThere")
  .nil) .nil)
  (.cons (.asg (.many [5, 6]) (.call "answered" (.cons (.var 2) (.cons (.var 3) (.cons (.var 4) (.cons (.var 1) .nil))))))
  (.cons (.ret (.tup (.cons (.bin .add (.var 5) (.tup (.cons (.var 4) .nil))) (.cons (.bin .add (.var 6) (.tup (.cons (.var 4) .nil))) .nil))))
  .nil))))⟩

/-- whole numbers, laid out -/
def iD (l : List Int) : List D := l.map .int
def tD : Option Int → D
  | none => .non
  | some z => .int z
/-- a box, as it is handed in -/
def bD (ps : List (Int × Int)) (t : Option Int) : D := .tup [.tup (iD (lows ps)), .tup (iD (highs ps)), tD t]
def pD (p : Int × Int) : D := .tup [.int p.1, .int p.2]
@[scoped simp] theorem iD_len (l : List Int) : (iD l).length = l.length := by unfold iD; rw [List.length_map]
@[scoped simp] theorem lows_len (ps : List (Int × Int)) : (lows ps).length = ps.length := by unfold lows; rw [List.length_map]
@[scoped simp] theorem highs_len (ps : List (Int × Int)) : (highs ps).length = ps.length := by unfold highs; rw [List.length_map]
@[scoped simp] theorem ints_iD (l : List Int) : ints? (iD l) = some l := ints_map l
theorem zip_iD (ps : List (Int × Int)) : ((iD (lows ps)).zip (iD (highs ps))).map (fun p => D.tup [p.1, p.2]) = ps.map pD := by
  unfold iD lows highs
  induction ps with
  | nil => rfl
  | cons p ps ih =>
    simp only [List.map_cons, List.zip_cons_cons, ih]
    rfl
/-- a tuple or a list -/
inductive Sq : (List D → D) → Prop where
  | tup : Sq .tup
  | lst : Sq .lst
theorem sq_sum {f : List D → D} (h : Sq f) (l : List Int) : bi1 "sum" (.val (f (iD l))) = some (.val (.int l.sum)) := by
  cases h
  · show (match (some (iD l)).bind ints? with | some ns => some (M.val (.int ns.sum)) | none => none) = _
    rw [Option.bind_some, ints_iD]
  · show (match (some (iD l)).bind ints? with | some ns => some (M.val (.int ns.sum)) | none => none) = _
    rw [Option.bind_some, ints_iD]
theorem sq_bw {f : List D → D} (h : Sq f) (xs : List D) (p : Pl) (s : Store) : bw (.val (f xs)) p s = (.val (f xs), none) := by cases h <;> rfl
theorem sq_wk {f : List D → D} (h : Sq f) (xs : List D) (p : Pl) (s : Store) : wk (.val (f xs)) p s = (.val (f xs), []) := by cases h <;> rfl
theorem sq_pairs {f : List D → D} (h : Sq f) (xs ys : List D) : pairs (.val (f xs)) (.val (f ys)) = some ((xs.zip ys).map fun p => .tup [p.1, p.2]) := by cases h <;> rfl
@[scoped simp] theorem tuple_tup (xs : List D) : bi1 "tuple" (.val (.tup xs)) = some (.val (.tup xs)) := Eq.trans rfl rfl
@[scoped simp] theorem max_ii (i j : Int) : bi2 "max" (.val (.int i)) (.val (.int j)) = some (.val (.int (max i j))) := Eq.trans rfl rfl
@[scoped simp] theorem min_ii (i j : Int) : bi2 "min" (.val (.int i)) (.val (.int j)) = some (.val (.int (min i j))) := Eq.trans rfl rfl
section
variable {P : Prog} {W n : Nat} {s : Store}
/-- what narrowed gives -/
def narD (f : List D → D) (ps : List (Int × Int)) (t : Option Int) : D := match t with
  | none => .tup [f (iD (lows ps)), f (iD (highs ps))]
  | some z => match narB ps (some z) with
    | none => .non
    | some qs => .tup [.lst (iD (lows qs)), .lst (iD (highs qs))]
theorem nar_loop {f : List D → D} (hf : Sq f) (R : Runs) (ps : List (Int × Int)) (z : Int) : ∀ (l : List (Int × Int)) (a b : List D) (o5 o6 : Option M), a.length + l.length ≤ LIM → b.length + l.length ≤ LIM → ∃ o5' o6',
    forL [] s (.many [5, 6]) (execs R W (.cons (.mut1 "append" (.var 3) (.bi2 "max" (.var 5) (.bin .sub (.var 2) (.bin .sub (.bi1 "sum" (.var 1)) (.var 6)))))
  (.cons (.mut1 "append" (.var 4) (.bi2 "min" (.var 6) (.bin .sub (.var 2) (.bin .sub (.bi1 "sum" (.var 0)) (.var 5)))))
  .nil))) (l.map pD) [some (.val (f (iD (lows ps)))), some (.val (f (iD (highs ps)))), some (.val (.int z)), some (.ol a), some (.ol b), o5, o6] s =
      .ok .nx [some (.val (f (iD (lows ps)))), some (.val (f (iD (highs ps)))), some (.val (.int z)), some (.ol (a ++ l.map fun p => .int (max p.1 (z - ((highs ps).sum - p.2))))), some (.ol (b ++ l.map fun p => .int (min p.2 (z - ((lows ps).sum - p.1))))), o5', o6'] s
  | [], a, b, o5, o6, _, _ => ⟨o5, o6, by simp⟩
  | p :: l, a, b, o5, o6, ha, hb => by
    rw [List.length_cons] at ha hb
    obtain ⟨o5', o6', h⟩ := nar_loop hf R ps z l (a ++ [.int (max p.1 (z - ((highs ps).sum - p.2)))]) (b ++ [.int (min p.2 (z - ((lows ps).sum - p.1)))]) (some (.val (.int p.1))) (some (.val (.int p.2))) (by rw [List.length_append, List.length_singleton]; omega) (by rw [List.length_append, List.length_singleton]; omega)
    refine ⟨o5', o6', ?_⟩
    have h1 : a.length < LIM := by omega
    have h2 : b.length < LIM := by omega
    rw [List.map_cons, forL_cons, List.map_cons, List.map_cons]
    simp only [List.append_assoc, List.singleton_append] at h
    rw [← h]
    simp [pD, sq_sum hf, sq_bw hf, h1, h2]
theorem narrowed_ok (hl : look P "narrowed" = some F_narrowed) {f : List D → D} (hf : Sq f) {ps : List (Int × Int)} (t : Option Int) (hp : ps.length ≤ 1000) : run P W (n + 1) "narrowed" [f (iD (lows ps)), f (iD (highs ps)), tD t] s = .ok (.val (narD f ps t)) s := by
  rw [run_eq hl rfl (by decide)]
  have hlim : ps.length ≤ LIM := Nat.le_trans hp (by decide)
  cases t with
  | none => cases hf <;> simp [F_narrowed, begun, tD, narD, gc_self]
  | some z =>
    by_cases c1 : (lows ps).sum ≤ z
    · by_cases c2 : z ≤ (highs ps).sum
      · obtain ⟨o5, o6, h⟩ := nar_loop (W := W) (s := s) hf (run P W n) ps z ps [] [] none none (by simpa using hlim) (by simpa using hlim)
        have e : narD f ps (some z) = .tup [.lst (ps.map fun p => .int (max p.1 (z - ((highs ps).sum - p.2)))), .lst (ps.map fun p => .int (min p.2 (z - ((lows ps).sum - p.1))))] := by
          unfold narD narB
          dsimp only
          rw [if_pos ⟨c1, c2⟩]
          dsimp only
          unfold iD lows highs
          rw [List.map_map, List.map_map, List.map_map, List.map_map]
          rfl
        rw [e]
        simp [F_narrowed, begun, tD, sq_sum hf, sq_bw hf, sq_wk hf, sq_pairs hf, zip_iD, c1, c2]
        rw [h]
        simp [gc_self]
      · have e : narD f ps (some z) = .non := by
          unfold narD narB
          dsimp only
          rw [if_neg fun h => c2 h.2]
        rw [e]
        simp [F_narrowed, begun, tD, sq_sum hf, sq_bw hf, c1, c2, gc_self]
    · have e : narD f ps (some z) = .non := by
        unfold narD narB
        dsimp only
        rw [if_neg fun h => c1 h.1]
      rw [e]
      simp [F_narrowed, begun, tD, sq_sum hf, sq_bw hf, c1, gc_self]
/-- .. tightened -/
def tigD (ps : List (Int × Int)) (t : Option Int) : D := match narB ps t with
  | none => .non
  | some qs => .tup [.tup (iD (lows qs)), .tup (iD (highs qs))]
theorem tightened_ok (hl1 : look P "narrowed" = some F_narrowed) (hl : look P "tightened" = some F_tightened) {ps : List (Int × Int)} (t : Option Int) (hp : ps.length ≤ 1000) : run P W (n + 2) "tightened" [.tup (iD (lows ps)), .tup (iD (highs ps)), tD t] s = .ok (.val (tigD ps t)) s := by
  rw [run_eq hl rfl (by decide)]
  have h := narrowed_ok (W := W) (n := n) (s := s) hl1 Sq.tup t hp
  have htd : ∀ (e : Env), vl (.val (tD t)) (.slot 2) e s = .ok (.val (tD t)) e s := fun e => rfl
  cases t with
  | none =>
    simp [tD, narD] at h
    simp [F_tightened, begun, tD, h, tigD, narB, gc_self]
  | some z =>
    cases hn : narB ps (some z) with
    | none =>
      have e : narD .tup ps (some z) = .non := by
        unfold narD
        dsimp only
        rw [hn]
      rw [e] at h
      simp [F_tightened, begun, tD, tigD, hn, gc_self] at h ⊢
      simp [h, gc_self]
    | some qs =>
      have e : narD .tup ps (some z) = .tup [.lst (iD (lows qs)), .lst (iD (highs qs))] := by
        unfold narD
        dsimp only
        rw [hn]
      rw [e] at h
      simp [F_tightened, begun, tD, tigD, hn, gc_self] at h ⊢
      simp [h, gc_self]
/-- a box that is one -/
def BV (ps : List (Int × Int)) : Prop := 1 ≤ ps.length ∧ ps.length ≤ 3 ∧ ∀ p ∈ ps, 0 ≤ p.1 ∧ p.1 ≤ p.2 ∧ p.2 ≤ 7
theorem BV.ok {ps : List (Int × Int)} (h : BV ps) : BOk ps := fun p hp => (h.2.2 p hp).2.1
theorem at_lows {ps : List (Int × Int)} {k : Nat} {p : Int × Int} (h : ps[k]? = some p) : L2.atI (iD (lows ps)) (k : Int) = some (.int p.1) := by
  have hk := (List.getElem?_eq_some_iff.mp h).1
  rw [atI_at (k := k) rfl (by simpa using hk)]
  unfold iD lows
  rw [List.getElem?_map, List.getElem?_map, h]
  rfl
theorem at_highs {ps : List (Int × Int)} {k : Nat} {p : Int × Int} (h : ps[k]? = some p) : L2.atI (iD (highs ps)) (k : Int) = some (.int p.2) := by
  have hk := (List.getElem?_eq_some_iff.mp h).1
  rw [atI_at (k := k) rfl (by simpa using hk)]
  unfold iD highs
  rw [List.getElem?_map, List.getElem?_map, h]
  rfl
theorem is_box_ok (hl : look P "is_box" = some F_is_box) {ps : List (Int × Int)} (t : Option Int) (hp : BV ps) : run P W (n + 1) "is_box" [bD ps t] s = .ok (.val (.bl true)) s := by
  rw [run_eq hl rfl (by decide)]
  obtain ⟨h1, h2, h3⟩ := hp
  have a1 : (1 : Int) ≤ ps.length := by omega
  have a2 : (ps.length : Int) ≤ 3 := by omega
  have a3 : ps.length ≤ LIM := Nat.le_trans h2 (by decide)
  simp [F_is_box, begun, bD, a1, a2, getI_len a3, lcK, wipeOk, rng_len, a3, wipe]
  rw [lc_none (by simp) [] fun x hx => ?_]
  · simp [lcEnd, back, gc_self]
  · obtain ⟨k, rfl, hk⟩ := rng_mem hx
    have hk2 : k < ps.length := by omega
    have e := List.getElem?_eq_getElem hk2
    obtain ⟨g1, g2, g3⟩ := h3 _ (List.getElem_mem hk2)
    refine ⟨_, [some (.val (.tup [.tup (iD (lows ps)), .tup (iD (highs ps)), tD t])), some (.val (.tup (iD (lows ps)))), some (.val (.tup (iD (highs ps)))), some (.val (tD t)), some (.val (.int k))], rfl, ?_, rfl⟩
    simp [at_lows e, at_highs e, g1, g2, g3]
def tigT (qs : List (Int × Int)) (t : Option Int) : D := .tup [.tup (iD (lows qs)), .tup (iD (highs qs)), tD t]
theorem tight_ok (hl1 : look P "narrowed" = some F_narrowed) (hl2 : look P "tightened" = some F_tightened) (hl3 : look P "is_box" = some F_is_box) (hl : look P "tight" = some F_tight) {ps : List (Int × Int)} (t : Option Int) (hp : BV ps) :
    run P W (n + 3) "tight" [bD ps t] s = match narB ps t with
      | none => .err "NoWorld" s
      | some qs => .ok (.val (tigT qs t)) s := by
  rw [run_eq hl rfl (by decide)]
  have hi := is_box_ok (W := W) (n := n + 1) (s := s) hl3 t hp
  have ht := tightened_ok (W := W) (n := n) (s := s) hl1 hl2 (ps := ps) t (Nat.le_trans hp.2.1 (by decide))
  unfold bD at hi
  cases hn : narB ps t with
  | none =>
    have e : tigD ps t = .non := by unfold tigD; rw [hn]
    rw [e] at ht
    simp [F_tight, begun, bD, hi, ht, gc_self]
  | some qs =>
    have e : tigD ps t = .tup [.tup (iD (lows qs)), .tup (iD (highs qs))] := by unfold tigD; rw [hn]
    rw [e] at ht
    have hlim : (2 : Nat) + 1 ≤ LIM := by decide
    simp [F_tight, begun, bD, hi, ht, gc_self, bin_addT, hlim, tigT]
/-! looks -/
def looksFrom (k : Nat) : List (Int × Int) → List (Int × Int)
  | [] => []
  | q :: qs => (upto (q.1 + 1) q.2).map (fun m => ((k : Int), m)) ++ looksFrom (k + 1) qs
theorem looksFrom_cons (k : Nat) (q : Int × Int) (qs : List (Int × Int)) : looksFrom k (q :: qs) = (upto (q.1 + 1) q.2).map (fun m => ((k : Int), m)) ++ looksFrom (k + 1) qs := rfl
theorem looks_mem {a m : Int} : ∀ {qs : List (Int × Int)} {k : Nat}, (a, m) ∈ looksFrom k qs ↔ ∃ (j : Nat) (q : Int × Int), qs[j]? = some q ∧ a = (k : Int) + j ∧ q.1 < m ∧ m ≤ q.2
  | [], k => by simp [looksFrom]
  | q :: qs, k => by
    unfold looksFrom
    rw [List.mem_append, looks_mem, List.mem_map]
    constructor
    · rintro (⟨x, h1, h2⟩ | ⟨j, r, h1, h2, h3⟩)
      · cases h2
        have := upto_mem.mp h1
        exact ⟨0, q, rfl, by omega, by omega, by omega⟩
      · exact ⟨j + 1, r, by simpa using h1, by omega, h3⟩
    · rintro ⟨j, r, h1, h2, h3, h4⟩
      cases j with
      | zero =>
        simp at h1
        subst h1
        exact .inl ⟨m, upto_mem.mpr ⟨by omega, h4⟩, by rw [h2]; simp⟩
      | succ j => exact .inr ⟨j, r, by simpa using h1, by omega, h3, h4⟩
theorem rng_upto (l h : Int) : rng l (h + 1) = (upto l h).map .int := by
  unfold rng upto
  rw [List.map_map]
  rfl
def BW (qs : List (Int × Int)) : Prop := qs.length ≤ 3 ∧ ∀ q ∈ qs, 0 ≤ q.1 ∧ q.1 ≤ q.2 ∧ q.2 ≤ 7
theorem getI_small {e : Env} {i : Int} (h1 : -1000 ≤ i) (h2 : i ≤ 1000) : getI (.val (.int i)) e s = .ok i e s := getI_ok' (by omega) (by omega)
theorem looks_loop (R : Runs) {qs : List (Int × Int)} (hq : BW qs) : ∀ (r : List (Int × Int)) (j : Nat) (acc : List D) (o3 : Option M), qs.drop j = r → acc.length + 8 * r.length ≤ 1000 → ∃ o3',
    forL [] s (.one 3) (execs R W (.cons (.mut1 "extend" (.var 2) (.lc (.tup (.cons (.var 3) (.cons (.var 4) .nil))) (.one 4) (.rng2 (.bin .add (.idx (.var 0) (.var 3)) (.cst (.int 1))) (.bin .add (.idx (.var 1) (.var 3)) (.cst (.int 1)))) .no [4]))
  .nil)) (rng (j : Int) qs.length) [some (.val (.tup (iD (lows qs)))), some (.val (.tup (iD (highs qs)))), some (.ol acc), o3, none] s =
      .ok .nx [some (.val (.tup (iD (lows qs)))), some (.val (.tup (iD (highs qs)))), some (.ol (acc ++ (looksFrom j r).map pD)), o3', none] s
  | [], j, acc, o3, hr, ha => by
    have hj : qs.length ≤ j := by simpa using hr
    rw [rng_nil (by omega)]
    exact ⟨o3, by simp [looksFrom]⟩
  | q :: r, j, acc, o3, hr, ha => by
    have hj : j < qs.length := by
      by_cases h : j < qs.length
      · exact h
      · rw [List.drop_eq_nil_iff.mpr (by omega)] at hr
        cases hr
    have e : qs[j]? = some q := by
      have := congrArg (fun l : List (Int × Int) => l[0]?) hr
      simpa using this
    have hr' : qs.drop (j + 1) = r := by
      have := congrArg List.tail hr
      simpa using this
    obtain ⟨b1, b2, b3⟩ := hq.2 q (List.mem_of_getElem? e)
    rw [List.length_cons] at ha
    have hul : (upto (q.1 + 1) q.2).length ≤ 7 := by rw [upto_len]; omega
    obtain ⟨o3', h⟩ := looks_loop R hq r (j + 1) (acc ++ (upto (q.1 + 1) q.2).map fun m => .tup [.int j, .int m]) (some (.val (.int j))) hr' (by rw [List.length_append, List.length_map]; omega)
    refine ⟨o3', ?_⟩
    rw [rng_cons (by omega), forL_cons]
    have hlc : lcL [] s [4] (.one 4) (evc R .no) (valD (ev R (.tup (.cons (.var 3) (.cons (.var 4) .nil))))) ((upto (q.1 + 1) q.2).map .int) [] [some (.val (.tup (iD (lows qs)))), some (.val (.tup (iD (highs qs)))), some (.ol acc), some (.val (.int j)), none] s
        = .ok ((upto (q.1 + 1) q.2).map fun m => .tup [.int j, .int m]) [some (.val (.tup (iD (lows qs)))), some (.val (.tup (iD (highs qs)))), some (.ol acc), some (.val (.int j)), none] s := by
      rw [lc_all (g := fun d => .tup [.int j, d]) (by simp) [] fun x hx => ?_]
      · rw [List.nil_append, List.map_map]
        rfl
      · obtain ⟨m, hm, rfl⟩ := List.mem_map.mp hx
        refine ⟨_, _, [some (.val (.tup (iD (lows qs)))), some (.val (.tup (iD (highs qs)))), some (.ol acc), some (.val (.int j)), some (.val (.int m))], rfl, rfl, ?_, rfl⟩
        simp
    have hll : ((upto (q.1 + 1) q.2).map D.int).length ≤ LIM := by rw [List.length_map]; exact Nat.le_trans hul (by decide)
    have hlx : acc.length + (upto (q.1 + 1) q.2).length ≤ LIM := by
      have : LIM = 16777216 := rfl
      omega
    have hul2 : (upto (q.1 + 1) q.2).length ≤ LIM := Nat.le_trans hul (by decide)
    have hx : (looksFrom j (q :: r)).map pD = ((upto (q.1 + 1) q.2).map fun m => D.tup [.int j, .int m]) ++ (looksFrom (j + 1) r).map pD := by
      rw [looksFrom_cons, List.map_append, List.map_map]
      rfl
    rw [hx, ← List.append_assoc]
    rw [show ((j + 1 : Nat) : Int) = (j : Int) + 1 by omega] at h
    rw [← h]
    simp [at_lows e, at_highs e, rng_upto, lcK, wipeOk, wipe, hul2]
    rw [hlc]
    simp [lcEnd, back, hlx]
theorem looks_ok (hl : look P "looks_in" = some F_looks_in) {qs : List (Int × Int)} (hq : BW qs) : run P W (n + 1) "looks_in" [.tup (iD (lows qs)), .tup (iD (highs qs))] s = .ok (.ol ((looksFrom 0 qs).map pD)) s := by
  rw [run_eq hl rfl (by decide)]
  have h3 := hq.1
  obtain ⟨o3, h⟩ := looks_loop (W := W) (s := s) (run P W n) hq qs 0 [] none (by simp) (by simp; omega)
  have hlim : qs.length ≤ LIM := Nat.le_trans h3 (by decide)
  simp [F_looks_in, begun, getI_len hlim]
  simp at h
  rw [h]
  simp [gc_self]
/-! a look asked -/
theorem set_split {α : Type} : ∀ {l : List α} {k : Nat} (a : α), k < l.length → l.take k ++ a :: l.drop (k + 1) = l.set k a
  | [], k, a, h => by simp at h
  | x :: l, 0, a, h => by simp
  | x :: l, k + 1, a, h => by
    simp at h
    simp [set_split a h]
theorem lows_set {qs : List (Int × Int)} {k : Nat} {q : Int × Int} : iD (lows (qs.set k q)) = (iD (lows qs)).set k (.int q.1) := by
  unfold iD lows
  rw [List.map_set, List.map_set]
theorem highs_set {qs : List (Int × Int)} {k : Nat} {q : Int × Int} : iD (highs (qs.set k q)) = (iD (highs qs)).set k (.int q.2) := by
  unfold iD highs
  rw [List.map_set, List.map_set]
theorem set_sameB {α : Type} : ∀ {l : List α} {k : Nat} {a : α}, l[k]? = some a → l.set k a = l
  | [], k, a, h => by simp at h
  | x :: l, 0, a, h => by
    simp at h
    subst h
    rfl
  | x :: l, k + 1, a, h => by
    simp at h
    simp [set_sameB h]
theorem slice_tupB (xs : List D) (lo hi : Option Int) : slice (.val (.tup xs)) lo hi = some (.val (.tup (cutD xs lo hi))) := rfl
theorem answered_ok (hl1 : look P "narrowed" = some F_narrowed) (hl2 : look P "tightened" = some F_tightened) (hl : look P "answered" = some F_answered) {qs : List (Int × Int)} (t : Option Int) (hq : qs.length ≤ 3) {k : Nat} {q : Int × Int} (e : qs[k]? = some q) (m : Int) :
    run P W (n + 3) "answered" [.tup (iD (lows qs)), .tup (iD (highs qs)), tD t, pD (k, m)] s = .ok (.val (.tup [tigD (qs.set k (m, q.2)) t, tigD (qs.set k (q.1, m - 1)) t])) s := by
  rw [run_eq hl rfl (by decide)]
  have hk := (List.getElem?_eq_some_iff.mp e).1
  have hA := tightened_ok (W := W) (n := n) (s := s) hl1 hl2 (ps := qs.set k (m, q.2)) t (by rw [List.length_set]; omega)
  have hB := tightened_ok (W := W) (n := n) (s := s) hl1 hl2 (ps := qs.set k (q.1, m - 1)) t (by rw [List.length_set]; omega)
  rw [lows_set, highs_set] at hA hB
  have eL : (iD (lows qs))[k]? = some (.int q.1) := by
    unfold iD lows
    rw [List.getElem?_map, List.getElem?_map, e]
    rfl
  have eH : (iD (highs qs))[k]? = some (.int q.2) := by
    unfold iD highs
    rw [List.getElem?_map, List.getElem?_map, e]
    rfl
  rw [set_sameB eH] at hA
  rw [set_sameB eL] at hB
  have c1 : cutD (iD (lows qs)) (some ((k : Int) + 1)) none = (iD (lows qs)).drop (k + 1) := by
    have := cut_drop (iD (lows qs)) (k + 1)
    rw [← this]
    rfl
  have c2 : cutD (iD (highs qs)) (some ((k : Int) + 1)) none = (iD (highs qs)).drop (k + 1) := by
    have := cut_drop (iD (highs qs)) (k + 1)
    rw [← this]
    rfl
  have l1 : ((iD (lows qs)).take k).length + 1 ≤ LIM := by
    rw [List.length_take]
    have : LIM = 16777216 := rfl
    simp
    omega
  have l2 : ((iD (highs qs)).take k).length + 1 ≤ LIM := by
    rw [List.length_take]
    have : LIM = 16777216 := rfl
    simp
    omega
  have l3 : ((iD (lows qs)).take k ++ [D.int m]).length + ((iD (lows qs)).drop (k + 1)).length ≤ LIM := by
    rw [List.length_append, List.length_take, List.length_drop]
    have : LIM = 16777216 := rfl
    simp
    omega
  have l4 : ((iD (highs qs)).take k ++ [D.int (m - 1)]).length + ((iD (highs qs)).drop (k + 1)).length ≤ LIM := by
    rw [List.length_append, List.length_take, List.length_drop]
    have : LIM = 16777216 := rfl
    simp
    omega
  have hlL : k < (iD (lows qs)).length := by simpa using hk
  have hlH : k < (iD (highs qs)).length := by simpa using hk
  have b1 : bin .add (.val (.tup ((iD (lows qs)).take k))) (.val (.tup [.int m])) = some (.val (.tup ((iD (lows qs)).take k ++ [.int m]))) := bin_addT l1
  have b2 : bin .add (.val (.tup ((iD (lows qs)).take k ++ [.int m]))) (.val (.tup ((iD (lows qs)).drop (k + 1)))) = some (.val (.tup ((iD (lows qs)).set k (.int m)))) := by
    rw [bin_addT l3, List.append_assoc, List.singleton_append, set_split _ hlL]
  have b3 : bin .add (.val (.tup ((iD (highs qs)).take k))) (.val (.tup [.int (m - 1)])) = some (.val (.tup ((iD (highs qs)).take k ++ [.int (m - 1)]))) := bin_addT l2
  have b4 : bin .add (.val (.tup ((iD (highs qs)).take k ++ [.int (m - 1)]))) (.val (.tup ((iD (highs qs)).drop (k + 1)))) = some (.val (.tup ((iD (highs qs)).set k (.int (m - 1))))) := by
    rw [bin_addT l4, List.append_assoc, List.singleton_append, set_split _ hlH]
  have tb : ∀ (p : Pl) (s : Store), bw (.val (tD t)) p s = (.val (tD t), none) := fun p s => by cases t <;> rfl
  simp only [F_answered, begun, pD]
  simp [slice_tupB, cut_take, c1, c2, b1, b2, b3, b4, hA, hB]
  cases hx : tigD (qs.set k (m, q.2)) t with
  | _ => simp [gc_self]
/-! a look among looks -/
theorem eqv_pD (p q : Int × Int) : eqv (pD p) (pD q) = decide (p = q) := by
  obtain ⟨a, b⟩ := p
  obtain ⟨c, d⟩ := q
  show PySem.PyData.eqv (.tuple [.int a, .int b]) (.tuple [.int c, .int d]) = _
  simp only [PySem.PyData.eqv, PySem.PyData.eqvAll, Prod.mk.injEq, Bool.and_true]
  by_cases h1 : a = c <;> by_cases h2 : b = d <;> simp [h1, h2]
theorem lay_pDs : ∀ l : List (Int × Int), (D.lst (l.map pD)).lay = true
  | [] => rfl
  | p :: l => by
    have h : (toPy (.lst (l.map pD))).canLay0 = true := lay_pDs l
    show (toPy (.lst ((p :: l).map pD))).canLay0 = true
    unfold toPy PySem.PyData.canLay0 at h ⊢
    rw [List.map_cons]
    simp only [toPys, PySem.PyData.canLayAll0, h, Bool.and_true]
    rfl
theorem in_looks (p : Int × Int) (l : List (Int × Int)) : cmp .isin (.val (pD p)) (.ol (l.map pD)) = some (decide (p ∈ l)) := by
  show isIn (.val (pD p)) (.ol (l.map pD)) = _
  have h1 : (pD p).lay = true := rfl
  have h2 : (pD p).deep ≤ 60 := by
    obtain ⟨a, b⟩ := p
    simp [pD, D.deep, toPy, toPys, PySem.PyData.depth, PySem.PyData.depthAll]
  show (if (pD p).flat && (l.map pD).all D.flat then some ((l.map pD).any fun y => eqv y (pD p)) else if true && (pD p).lay && (D.lst (l.map pD)).lay && decide ((pD p).deep ≤ 60) then some ((l.map pD).any fun y => eqv y (pD p)) else none) = _
  rw [show (pD p).flat = false from rfl, Bool.false_and, if_neg (by simp), h1, lay_pDs, decide_eq_true h2, if_pos (by rfl), List.any_map]
  congr 1
  rw [Bool.eq_iff_iff, List.any_eq_true, decide_eq_true_eq]
  constructor
  · rintro ⟨q, h3, h4⟩
    have h4 : eqv (pD q) (pD p) = true := h4
    rw [eqv_pD, decide_eq_true_eq] at h4
    rw [← h4]
    exact h3
  · intro h3
    exact ⟨p, h3, by show eqv (pD p) (pD p) = true; rw [eqv_pD]; simp⟩
theorem nin_looks (p : Int × Int) (l : List (Int × Int)) : cmp .nin (.val (pD p)) (.ol (l.map pD)) = some (!decide (p ∈ l)) := by
  show (cmp .isin (.val (pD p)) (.ol (l.map pD))).map _ = _
  rw [in_looks]
  rfl
theorem BV.bw {ps qs : List (Int × Int)} {t : Option Int} (h : BV ps) (e : narB ps t = some qs) : BW qs := by
  have T := narB_some h.ok e
  refine ⟨by rw [narB_len e]; exact h.2.1, fun q hq => ?_⟩
  obtain ⟨k, hk⟩ := List.getElem?_of_mem hq
  have hlt : k < ps.length := by rw [← narB_len e]; exact (List.getElem?_eq_some_iff.mp hk).1
  have ep := List.getElem?_eq_getElem hlt
  obtain ⟨g1, g2, g3⟩ := h.2.2 _ (List.getElem_mem hlt)
  obtain ⟨w1, a1, a2⟩ := T.lo k q hk
  obtain ⟨w2, b1, b2⟩ := T.hi k q hk
  obtain ⟨x, c1, c2⟩ := inBox_get a1.1 ep
  obtain ⟨y, d1, d2⟩ := inBox_get b1.1 ep
  rw [a2] at c1
  rw [b2] at d1
  cases c1
  cases d1
  have := T.ok q hq
  omega
/-- one side's box -/
def sideD (qs : List (Int × Int)) (t : Option Int) : D := .tup [.tup (iD (lows qs)), .tup (iD (highs qs)), tD t]
/-- BEHIND: what it refuses, what it gives -/
theorem behind_ok (hl1 : look P "narrowed" = some F_narrowed) (hl2 : look P "tightened" = some F_tightened) (hl3 : look P "is_box" = some F_is_box) (hl4 : look P "tight" = some F_tight) (hl5 : look P "looks_in" = some F_looks_in) (hl6 : look P "answered" = some F_answered) (hl : look P "behind" = some F_behind)
    {ps : List (Int × Int)} (t : Option Int) (hp : BV ps) (a m : Int) :
    (narB ps t = none → run P W (n + 4) "behind" [bD ps t, pD (a, m)] s = .err "NoWorld" s) ∧
    (∀ qs, narB ps t = some qs → (a, m) ∉ looksFrom 0 qs → run P W (n + 4) "behind" [bD ps t, pD (a, m)] s = .err "NotThere" s) ∧
    (∀ qs (k : Nat) q ys zs, narB ps t = some qs → a = k → qs[k]? = some q → (a, m) ∈ looksFrom 0 qs → narB (qs.set k (m, q.2)) t = some ys → narB (qs.set k (q.1, m - 1)) t = some zs → run P W (n + 4) "behind" [bD ps t, pD (a, m)] s = .ok (.val (.tup [sideD ys t, sideD zs t])) s) := by
  have ht := tight_ok (W := W) (n := n) (s := s) hl1 hl2 hl3 hl4 (ps := ps) t hp
  have tb : ∀ (p : Pl) (s : Store), bw (.val (tD t)) p s = (.val (tD t), none) := fun p s => by cases t <;> rfl
  refine ⟨fun hn => ?_, fun qs hn hm => ?_, fun qs k q ys zs hn ha e hm hy hz => ?_⟩
  · rw [hn] at ht
    rw [run_eq hl rfl (by decide)]
    simp [F_behind, begun, bD] at ht ⊢
    simp [ht, gc_self]
  · rw [hn] at ht
    have hk := looks_ok (W := W) (n := n + 2) (s := s) hl5 (hp.bw hn)
    have hm2 := nin_looks (a, m) (looksFrom 0 qs)
    rw [decide_eq_false hm] at hm2
    rw [run_eq hl rfl (by decide)]
    simp only [pD] at hm2 ⊢
    simp [F_behind, begun, bD, tigT] at ht ⊢
    simp [ht, gc_self, hk, hm2]
  · subst ha
    rw [hn] at ht
    have hk := looks_ok (W := W) (n := n + 2) (s := s) hl5 (hp.bw hn)
    have hm2 := nin_looks ((k : Int), m) (looksFrom 0 qs)
    rw [decide_eq_true hm] at hm2
    have han := answered_ok (W := W) (n := n) (s := s) hl1 hl2 hl6 (qs := qs) t (hp.bw hn).1 e m
    rw [show tigD (qs.set k (m, q.2)) t = .tup [.tup (iD (lows ys)), .tup (iD (highs ys))] by unfold tigD; rw [hy], show tigD (qs.set k (q.1, m - 1)) t = .tup [.tup (iD (lows zs)), .tup (iD (highs zs))] by unfold tigD; rw [hz]] at han
    have hlim : (2 : Nat) + 1 ≤ LIM := by decide
    rw [run_eq hl rfl (by decide)]
    simp only [pD] at hm2 han ⊢
    simp [F_behind, begun, bD, tigT] at ht ⊢
    simp [ht, gc_self, hk, hm2, han, bin_addT, hlim, sideD]
end
end OI.Y

/-! BX3: the laws' own boxes: _law_longer, _law_of, _law_tight, _law_box. -/
namespace OI.Y
open PySem (Str)
def F_law_longer : Fn := ⟨3, 6, (.cons (.asg (.one 3) (.lst .nil))
  (.cons (.fors (.one 4) (.of (.var 0)) (.cons (.mut1 "extend" (.var 3) (.lc (.bin .add (.var 4) (.tup (.cons (.var 5) .nil))) (.one 5) (.rng2 (.var 1) (.bin .add (.var 2) (.cst (.int 1)))) .no [5]))
  .nil))
  (.cons (.ret (.var 3))
  .nil)))⟩
def F_law_of : Fn := ⟨3, 7, (.cons (.asg (.one 3) (.lst (.cons (.tup .nil) .nil)))
  (.cons (.fors (.many [4, 5]) (.zip (.var 0) (.var 1)) (.cons (.asg (.one 3) (.call "_law_longer" (.cons (.var 3) (.cons (.var 4) (.cons (.var 5) .nil)))))
  .nil))
  (.cons (.ret (.lc (.var 6) (.one 6) (.of (.var 3)) (.yes (.either (.isN false (.var 2)) (.cmp .eq (.bi1 "sum" (.var 6)) (.var 2)))) [6]))
  .nil)))⟩
def F_law_tight : Fn := ⟨1, 4, (.cons (.asg (.one 1) (.lc (.bi1 "min" (.lc (.idx (.var 2) (.var 3)) (.one 2) (.of (.var 0)) .no [2])) (.one 3) (.rng1 (.bi1 "len" (.idx (.var 0) (.cst (.int 0))))) .no [3]))
  (.cons (.ret (.tup (.cons (.bi1 "tuple" (.var 1)) (.cons (.bi1 "tuple" (.lc (.bi1 "max" (.lc (.idx (.var 2) (.var 3)) (.one 2) (.of (.var 0)) .no [2])) (.one 3) (.rng1 (.bi1 "len" (.idx (.var 0) (.cst (.int 0))))) .no [3])) .nil))))
  .nil))⟩
def F_law_box : Fn := ⟨1, 10, (.cons (.asg (.one 1) (.bin .add (.cst (.int 1)) (.call "_law_drawn" (.cons (.var 0) (.cons (.cst (.int 3)) .nil)))))
  (.cons (.asg (.one 2) (.idx (.lst (.cons (.cst (.int 8)) (.cons (.cst (.int 6)) (.cons (.cst (.int 4)) .nil)))) (.bin .sub (.var 1) (.cst (.int 1)))))
  (.cons (.asg (.one 3) (.lst .nil))
  (.cons (.asg (.one 4) (.lst .nil))
  (.cons (.fors (.one 5) (.rng1 (.var 1)) (.cons (.asg (.one 6) (.bin .mul (.call "_law_drawn" (.cons (.var 0) (.cons (.cst (.int 3)) .nil))) (.call "_law_drawn" (.cons (.var 0) (.cons (.cst (.int 2)) .nil)))))
  (.cons (.mut1 "append" (.var 3) (.var 6))
  (.cons (.mut1 "append" (.var 4) (.bi2 "min" (.cst (.int 7)) (.bin .add (.var 6) (.call "_law_drawn" (.cons (.var 0) (.cons (.var 2) .nil))))))
  .nil))))
  (.cons (.asg (.one 7) (.bi1 "sum" (.lc (.bin .add (.var 6) (.call "_law_drawn" (.cons (.var 0) (.cons (.bin .add (.bin .sub (.var 8) (.var 6)) (.cst (.int 1))) .nil)))) (.many [6, 8]) (.zip (.var 3) (.var 4)) .no [6, 8])))
  (.cons (.asg (.one 9) (.idx (.lst (.cons (.cst .non) (.cons (.var 7) (.cons (.var 7) (.cons (.var 7) .nil))))) (.call "_law_drawn" (.cons (.var 0) (.cons (.cst (.int 4)) .nil)))))
  (.cons (.ifs (.cmp .eq (.call "_law_drawn" (.cons (.var 0) (.cons (.cst (.int 12)) .nil))) (.cst (.int 11))) (.cons (.asg (.one 9) (.idx (.lst (.cons (.bin .sub (.cst (.int 0)) (.cst (.int 1))) (.cons (.bin .sub (.bi1 "sum" (.var 3)) (.cst (.int 1))) (.cons (.bin .add (.bi1 "sum" (.var 4)) (.cst (.int 1))) (.cons (.bin .pow (.cst (.int 10)) (.cst (.int 59))) .nil))))) (.call "_law_drawn" (.cons (.var 0) (.cons (.cst (.int 4)) .nil)))))
  .nil) .nil)
  (.cons (.ret (.tup (.cons (.bi1 "tuple" (.var 3)) (.cons (.bi1 "tuple" (.var 4)) (.cons (.var 9) .nil)))))
  .nil)))))))))⟩
def F_law_kind : Fn := ⟨1, 4, (.cons (.tryA (.cons (.expr (.app (.var 0)))
  .nil) ["GapError", "NoOffice", "NoDesk", "Stopped", "NoRoom", "NoCount", "NoWord", "Short", "NoNumber", "Twice", "NotThere", "NoWorld", "NoBox"] "GapError" 1 (.cons (.asg (.one 2) (.lst (.cons (.isi (.var 1) true [.own "NoBox"]) (.cons (.isi (.var 1) true [.own "NoWorld"]) (.cons (.isi (.var 1) true [.own "NotThere"]) .nil)))))
  (.cons (.asg (.one 3) (.isi (.var 1) false [.own "NoCount", .own "NoDesk", .own "NoNumber", .own "NoOffice", .own "NoRoom", .own "NoWord", .own "Short", .own "Stopped", .own "Twice"]))
  (.cons (.ifs (.either (.var 3) (.either (.cmp .ne (.bm1 "count" (.var 2) (.cst (.bl true))) (.cst (.int 1))) (.nott (.isi (.var 1) true [.valueError])))) (.cons (.ret (.cst (.str "other")))
  .nil) .nil)
  (.cons (.ret (.idx (.lst (.cons (.cst (.str "NoBox")) (.cons (.cst (.str "NoWorld")) (.cons (.cst (.str "NotThere")) .nil)))) (.bm1 "index" (.var 2) (.cst (.bl true)))))
  .nil)))))
  (.cons (.ret (.cst (.str "")))
  .nil))⟩
def F_law_sides : Fn := ⟨3, 8, (.cons (.asg (.many [3, 4]) (.var 1))
  (.cons (.ifs (.nott (.chain .le .lt (.cst (.int 0)) (.var 3) (.bi1 "len" (.idx (.var 0) (.cst (.int 0)))))) (.cons (.ret (.cst .non))
  .nil) .nil)
  (.cons (.asg (.one 5) (.lc (.var 6) (.one 6) (.of (.var 0)) (.yes (.cmp .ge (.idx (.var 6) (.var 3)) (.var 4))) [6]))
  (.cons (.asg (.one 7) (.lc (.var 6) (.one 6) (.of (.var 0)) (.yes (.cmp .lt (.idx (.var 6) (.var 3)) (.var 4))) [6]))
  (.cons (.ifs (.either (.cmp .eq (.var 5) (.lst .nil)) (.cmp .eq (.var 7) (.lst .nil))) (.cons (.ret (.cst .non))
  .nil) .nil)
  (.cons (.ret (.tup (.cons (.bin .add (.call "_law_tight" (.cons (.var 5) .nil)) (.tup (.cons (.var 2) .nil))) (.cons (.bin .add (.call "_law_tight" (.cons (.var 7) .nil)) (.tup (.cons (.var 2) .nil))) .nil))))
  .nil))))))⟩

def vW (w : List Int) : D := .tup (iD w)
theorem iD_append (a b : List Int) : iD (a ++ b) = iD a ++ iD b := by unfold iD; rw [List.map_append]
section
variable {P : Prog} {W n : Nat} {s : Store} {ns : List Int}
theorem longer_loop (R : Runs) {p : Int × Int} (hw : p.2 ≤ p.1 + 10) {a0 a1 a2 : Option M} (h1 : a1 = some (.val (.int p.1))) (h2 : a2 = some (.val (.int p.2))) : ∀ (ws : List (List Int)) (acc : List D) (o4 : Option M), acc.length + 16 * ws.length ≤ LIM → (∀ w ∈ ws, w.length ≤ 1000) → ∃ o4',
    forL [] s (.one 4) (execs R W (.cons (.mut1 "extend" (.var 3) (.lc (.bin .add (.var 4) (.tup (.cons (.var 5) .nil))) (.one 5) (.rng2 (.var 1) (.bin .add (.var 2) (.cst (.int 1)))) .no [5]))
  .nil)) (ws.map vW) [a0, a1, a2, some (.ol acc), o4, none] s = .ok .nx [a0, a1, a2, some (.ol (acc ++ (longer ws p).map vW)), o4', none] s
  | [], acc, o4, _, _ => ⟨o4, by simp [longer]⟩
  | w :: ws, acc, o4, ha, hl => by
    rw [List.length_cons] at ha
    have hul : (upto p.1 p.2).length ≤ 11 := by rw [upto_len]; omega
    obtain ⟨o4', h⟩ := longer_loop R hw h1 h2 ws (acc ++ (upto p.1 p.2).map fun m => vW (w ++ [m])) (some (.val (vW w))) (by rw [List.length_append, List.length_map]; omega) (fun v hv => hl v (List.mem_cons_of_mem _ hv))
    refine ⟨o4', ?_⟩
    subst h1 h2
    have hwl := hl w (List.mem_cons_self ..)
    have hwl2 : w.length + 1 ≤ LIM := by
      have : LIM = 16777216 := rfl
      omega
    have hlc : lcL [] s [5] (.one 5) (evc R .no) (valD (ev R (.bin .add (.var 4) (.tup (.cons (.var 5) .nil))))) ((upto p.1 p.2).map .int) [] [a0, some (.val (.int p.1)), some (.val (.int p.2)), some (.ol acc), some (.val (vW w)), none] s
        = .ok ((upto p.1 p.2).map fun m => vW (w ++ [m])) [a0, some (.val (.int p.1)), some (.val (.int p.2)), some (.ol acc), some (.val (vW w)), none] s := by
      rw [lc_all (g := fun d => .tup (iD w ++ [d])) (by simp) [] fun x hx => ?_]
      · rw [List.nil_append, List.map_map]
        congr 1
        apply List.map_congr_left
        intro m _
        show D.tup (iD w ++ [.int m]) = D.tup (iD (w ++ [m]))
        rw [iD_append]
        rfl
      · obtain ⟨m, hm, rfl⟩ := List.mem_map.mp hx
        refine ⟨_, _, [a0, some (.val (.int p.1)), some (.val (.int p.2)), some (.ol acc), some (.val (vW w)), some (.val (.int m))], rfl, rfl, ?_, rfl⟩
        have hb : bin .add (.val (.tup (iD w))) (.val (.tup [.int m])) = some (.val (.tup (iD w ++ [.int m]))) := bin_addT (by simpa using hwl2)
        simp [vW, hb]
    have hul2 : (upto p.1 p.2).length ≤ LIM := Nat.le_trans hul (by decide)
    have hlx : acc.length + (upto p.1 p.2).length ≤ LIM := by omega
    have hx : (longer (w :: ws) p).map vW = ((upto p.1 p.2).map fun m => vW (w ++ [m])) ++ (longer ws p).map vW := by
      unfold longer
      rw [List.flatMap_cons, List.map_append, List.map_map]
      rfl
    rw [hx, ← List.append_assoc, ← h, List.map_cons, forL_cons]
    simp [rng_upto, lcK, wipeOk, wipe, hul2]
    rw [hlc]
    simp [lcEnd, back, hlx]
theorem longer_len {ws : List (List Int)} {p : Int × Int} (hw : p.2 ≤ p.1 + 7) : (longer ws p).length ≤ 8 * ws.length := by
  unfold longer
  induction ws with
  | nil => simp
  | cons w ws ih =>
    rw [List.flatMap_cons, List.length_append, List.length_map, upto_len, List.length_cons]
    omega
theorem longer_ok (hl : look P "_law_longer" = some F_law_longer) {p : Int × Int} (hw : p.2 ≤ p.1 + 10) {ws : List (List Int)} (h1 : 16 * ws.length ≤ LIM) (h2 : ∀ w ∈ ws, w.length ≤ 1000) : run P W (n + 1) "_law_longer" [.lst (ws.map vW), .int p.1, .int p.2] s = .ok (.ol ((longer ws p).map vW)) s := by
  rw [run_eq hl rfl (by decide)]
  obtain ⟨o4, h⟩ := longer_loop (W := W) (s := s) (run P W n) hw (a0 := some (.val (.lst (ws.map vW)))) rfl rfl ws [] none (by simpa using h1) h2
  simp [F_law_longer, begun]
  simp at h
  rw [h]
  simp [gc_self]
theorem longer_wlen {ws : List (List Int)} {p : Int × Int} {b : Nat} (h : ∀ w ∈ ws, w.length ≤ b) : ∀ w ∈ longer ws p, w.length ≤ b + 1 := fun w hw => by
  obtain ⟨a, x, h1, _, _, rfl⟩ := longer_mem.mp hw
  rw [List.length_append, List.length_singleton]
  have := h a h1
  omega
theorem of_loop (hl : look P "_law_longer" = some F_law_longer) {a0 a1 a2 : Option M} : ∀ (ps : List (Int × Int)) (ws : List (List Int)) (m : M) (o4 o5 o6 : Option M), (m = .ol (ws.map vW) ∨ m = .val (.lst (ws.map vW))) → (∀ p ∈ ps, p.2 ≤ p.1 + 7) → ws.length * 8 ^ ps.length ≤ 100000 → (∀ w ∈ ws, w.length + ps.length ≤ 100) → ∃ m' o4' o5',
    (m' = .ol ((ps.foldl longer ws).map vW) ∨ m' = .val (.lst ((ps.foldl longer ws).map vW))) ∧
    forL [] s (.many [4, 5]) (execs (run P W (n + 1)) W (.cons (.asg (.one 3) (.call "_law_longer" (.cons (.var 3) (.cons (.var 4) (.cons (.var 5) .nil)))))
  .nil)) (ps.map pD) [a0, a1, a2, some m, o4, o5, o6] s = .ok .nx [a0, a1, a2, some m', o4', o5', o6] s
  | [], ws, m, o4, o5, o6, hm, _, _, _ => ⟨m, o4, o5, hm, by simp⟩
  | p :: ps, ws, m, o4, o5, o6, hm, hp, hs, hw => by
    rw [List.length_cons, Nat.pow_succ] at hs
    have hpw := hp p (List.mem_cons_self ..)
    have hll := longer_len (ws := ws) hpw
    have h8 : 1 ≤ 8 ^ ps.length := Nat.pos_of_ne_zero (by simp)
    have hwl : ws.length * 8 ≤ 100000 := by
      have : ws.length * 8 ≤ ws.length * (8 ^ ps.length * 8) := Nat.mul_le_mul_left _ (by omega)
      omega
    have h1 : 16 * ws.length ≤ LIM := by
      have : LIM = 16777216 := rfl
      omega
    have h2 : ∀ w ∈ ws, w.length ≤ 1000 := fun w hx => by have := hw w hx; rw [List.length_cons] at this; omega
    obtain ⟨m', o4', o5', hm', h⟩ := of_loop hl (a0 := a0) (a1 := a1) (a2 := a2) ps (longer ws p) (.ol ((longer ws p).map vW)) (some (.val (.int p.1))) (some (.val (.int p.2))) o6 (.inl rfl) (fun q hq => hp q (List.mem_cons_of_mem _ hq))
      (Nat.le_trans (Nat.mul_le_mul_right _ hll) (by rw [Nat.mul_comm 8, Nat.mul_assoc, Nat.mul_comm 8]; exact hs)) (fun w hx => by
        obtain ⟨a, x, g1, _, _, rfl⟩ := longer_mem.mp hx
        have := hw a g1
        rw [List.length_cons] at this
        rw [List.length_append, List.length_singleton]
        omega)
    refine ⟨m', o4', o5', hm', ?_⟩
    have hr := longer_ok (W := W) (n := n) (s := s) hl (p := p) (by omega) h1 h2
    rw [List.map_cons, forL_cons, ← h]
    rcases hm with rfl | rfl <;> simp [pD, hr]
theorem allW_len : ∀ {ps : List (Int × Int)} {ws : List (List Int)}, (∀ p ∈ ps, p.2 ≤ p.1 + 7) → (ps.foldl longer ws).length ≤ ws.length * 8 ^ ps.length
  | [], ws, _ => by simp
  | p :: ps, ws, h => by
    rw [List.foldl_cons, List.length_cons, Nat.pow_succ]
    have h1 := allW_len (ps := ps) (ws := longer ws p) fun q hq => h q (List.mem_cons_of_mem _ hq)
    have h2 := longer_len (ws := ws) (h p (List.mem_cons_self ..))
    have h3 : (longer ws p).length * 8 ^ ps.length ≤ 8 * ws.length * 8 ^ ps.length := Nat.mul_le_mul_right _ h2
    have h4 : ws.length * (8 ^ ps.length * 8) = 8 * ws.length * 8 ^ ps.length := by
      rw [Nat.mul_comm (8 ^ ps.length) 8, ← Nat.mul_assoc, Nat.mul_comm ws.length 8]
    omega
theorem sum_vW (w : List Int) : bi1 "sum" (.val (vW w)) = some (.val (.int w.sum)) := sq_sum .tup w
theorem vW_bw (w : List Int) (p : Pl) (s : Store) : bw (.val (vW w)) p s = (.val (vW w), none) := rfl
def tP (t : Option Int) : D → Bool
  | .tup xs => (match ints? xs with | some w => tOk t w | none => false)
  | _ => false
theorem tP_vW (t : Option Int) (w : List Int) : tP t (vW w) = tOk t w := by
  show (match ints? (iD w) with | some w => tOk t w | none => false) = tOk t w
  rw [ints_iD]
theorem law_of_ok (hl1 : look P "_law_longer" = some F_law_longer) (hl : look P "_law_of" = some F_law_of) {ps : List (Int × Int)} (t : Option Int) (h3 : ps.length ≤ 5) (hp : ∀ p ∈ ps, p.2 ≤ p.1 + 7) : run P W (n + 2) "_law_of" [.tup (iD (lows ps)), .tup (iD (highs ps)), tD t] s = .ok (.ol ((wsOf ps t).map vW)) s := by
  rw [run_eq hl rfl (by decide)]
  have h8 : 8 ^ ps.length ≤ 8 ^ 5 := Nat.pow_le_pow_right (by decide) h3
  obtain ⟨m', o4, o5, hm, h⟩ := of_loop (W := W) (n := n) (s := s) hl1 (a0 := some (.val (.tup (iD (lows ps))))) (a1 := some (.val (.tup (iD (highs ps))))) (a2 := some (.val (tD t))) ps [[]] (.ol ([[]].map vW)) none none none (.inl rfl) hp (by simp; omega) (by simp; omega)
  have hlen := allW_len (ps := ps) (ws := [[]]) hp
  have hlen2 : (allW ps).length ≤ LIM := by
    have : LIM = 16777216 := rfl
    unfold allW
    simp at hlen
    omega
  have hlc : ∀ (m : M) (src : List Src), lcL src s [6] (.one 6) (evc (run P W (n + 1)) (.yes (.either (.isN false (.var 2)) (.cmp .eq (.bi1 "sum" (.var 6)) (.var 2))))) (valD (ev (run P W (n + 1)) (.var 6))) ((allW ps).map vW) [] [some (.val (.tup (iD (lows ps)))), some (.val (.tup (iD (highs ps)))), some (.val (tD t)), some m, o4, o5, none] s
      = .ok ((wsOf ps t).map vW) [some (.val (.tup (iD (lows ps)))), some (.val (.tup (iD (highs ps)))), some (.val (tD t)), some m, o4, o5, none] s := fun m src => by
    have hst : still src s s = true := still_self _ _
    rw [lc_filter (p := tP t) (g := id) hst [] fun x hx => ?_]
    · rw [List.nil_append, List.map_id, List.filter_map]
      congr 2
      unfold wsOf
      apply List.filter_congr
      intro w _
      exact tP_vW t w
    · obtain ⟨w, hw, rfl⟩ := List.mem_map.mp hx
      refine ⟨[some (.val (.tup (iD (lows ps)))), some (.val (.tup (iD (highs ps)))), some (.val (tD t)), some m, o4, o5, some (.val (vW w))], [some (.val (.tup (iD (lows ps)))), some (.val (.tup (iD (highs ps)))), some (.val (tD t)), some m, o4, o5, some (.val (vW w))], rfl, ?_, ?_⟩
      · rw [tP_vW]
        cases t with
        | none => simp [tD, tOk]
        | some z => simp [tD, tOk, sum_vW, vW_bw]
      · rw [tP_vW]
        by_cases c : tOk t w = true
        · rw [if_pos c]
          refine ⟨[some (.val (.tup (iD (lows ps)))), some (.val (.tup (iD (highs ps)))), some (.val (tD t)), some m, o4, o5, some (.val (vW w))], ?_, rfl⟩
          simp [vW]
        · rw [if_neg c]
          rfl
  have hs3 : [D.tup []] = [([] : List Int)].map vW := rfl
  simp [F_law_of, begun, sq_wk .tup, sq_pairs .tup, zip_iD]
  rw [hs3, h]
  have e : ps.foldl longer [[]] = allW ps := rfl
  rw [e] at hm
  rcases hm with rfl | rfl
  · have := hlc (.ol ((allW ps).map vW)) [.slot 3]
    simp [lcK, wipeOk, wipe, hlen2] at this ⊢
    rw [this]
    simp [lcEnd, back, gc_self]
  · have := hlc (.val (.lst ((allW ps).map vW))) []
    simp [lcK, wipeOk, wipe, hlen2] at this ⊢
    rw [this]
    simp [lcEnd, back, gc_self]
/-! the least and the greatest of some worlds -/
def colOf (es : List (List Int)) (k : Nat) : List Int := es.map fun w => w.getD k 0
theorem at_vW {w : List Int} {k : Nat} (h : k < w.length) : L2.atI (iD w) (k : Int) = some (.int (w.getD k 0)) := by
  rw [atI_at (k := k) rfl (by simpa using h)]
  unfold iD
  rw [List.getElem?_map, List.getElem?_eq_getElem h, List.getD_eq_getElem?_getD, List.getElem?_eq_getElem h]
  rfl
def gK (k : Nat) : D → D
  | .tup xs => xs.getD k .non
  | _ => .non
theorem gK_vW {w : List Int} {k : Nat} (h : k < w.length) : gK k (vW w) = .int (w.getD k 0) := by
  show (iD w).getD k .non = _
  unfold iD
  rw [List.getD_eq_getElem?_getD, List.getElem?_map, List.getElem?_eq_getElem h, List.getD_eq_getElem?_getD, List.getElem?_eq_getElem h]
  rfl
theorem min_ol (l : List Int) (h : l ≠ []) : bi1 "min" (.ol (iD l)) = some (.val (.int (minI l))) := by
  cases l with
  | nil => exact absurd rfl h
  | cons a l =>
    show (match (some (iD (a :: l))).bind ints? with | some (n :: ns) => some (M.val (.int (minI (n :: ns)))) | _ => none) = _
    rw [Option.bind_some, ints_iD]
theorem max_ol (l : List Int) (h : l ≠ []) : bi1 "max" (.ol (iD l)) = some (.val (.int (maxI l))) := by
  cases l with
  | nil => exact absurd rfl h
  | cons a l =>
    show (match (some (iD (a :: l))).bind ints? with | some (n :: ns) => some (M.val (.int (maxI (n :: ns)))) | _ => none) = _
    rw [Option.bind_some, ints_iD]
theorem col_lc (R : Runs) {es : List (List Int)} {k : Nat} (hk : ∀ w ∈ es, k < w.length) {o1 : Option M} : lcL [] s [2] (.one 2) (evc R .no) (valD (ev R (.idx (.var 2) (.var 3)))) (es.map vW) [] [some (.val (.lst (es.map vW))), o1, none, some (.val (.int k))] s
    = .ok (iD (colOf es k)) [some (.val (.lst (es.map vW))), o1, none, some (.val (.int k))] s := by
  rw [lc_all (g := gK k) (by simp) [] fun x hx => ?_]
  · rw [List.nil_append, List.map_map]
    unfold iD colOf
    rw [List.map_map]
    congr 1
    apply List.map_congr_left
    intro w hw
    exact gK_vW (hk w hw)
  · obtain ⟨w, hw, rfl⟩ := List.mem_map.mp hx
    refine ⟨[some (.val (.lst (es.map vW))), o1, some (.val (vW w)), some (.val (.int k))], _, [some (.val (.lst (es.map vW))), o1, some (.val (vW w)), some (.val (.int k))], rfl, rfl, ?_, rfl⟩
    rw [gK_vW (hk w hw)]
    simp [vW, at_vW (hk w hw)]
theorem col_spec {es : List (List Int)} {qs : List (Int × Int)} (T : Tt qs (· ∈ es)) {k : Nat} {q : Int × Int} (e : qs[k]? = some q) : minI (colOf es k) = q.1 ∧ maxI (colOf es k) = q.2 := by
  have hk := (List.getElem?_eq_some_iff.mp e).1
  have at_ : ∀ w ∈ es, w[k]? = some (w.getD k 0) := fun w hw => by
    have := T.len w hw
    rw [List.getD_eq_getElem?_getD, List.getElem?_eq_getElem (by omega)]
    rfl
  have mem : ∀ {x}, (∃ w ∈ es, w[k]? = some x) → x ∈ colOf es k := fun {x} ⟨w, h1, h2⟩ => List.mem_map.mpr ⟨w, h1, by
    have := at_ w h1
    rw [h2] at this
    exact (Option.some.inj this).symm⟩
  have bd : ∀ x ∈ colOf es k, q.1 ≤ x ∧ x ≤ q.2 := fun x hx => by
    obtain ⟨w, h1, rfl⟩ := List.mem_map.mp hx
    exact T.all k q w _ e h1 (at_ w h1)
  exact ⟨minI_eq (mem (T.lo k q e)) fun x hx => (bd x hx).1, maxI_eq (mem (T.hi k q e)) fun x hx => (bd x hx).2⟩
def hK (l : List Int) : D → D
  | .int k => .int (l.getD k.toNat 0)
  | _ => .non
theorem rng_hK (l : List Int) : (rng 0 (l.length : Int)).map (hK l) = iD l := by
  unfold rng iD
  rw [List.map_map, Int.sub_zero, Int.toNat_natCast]
  apply List.ext_getElem
  · simp
  · intro i h1 h2
    rw [List.length_map, List.length_range] at h1
    simp only [List.getElem_map, List.getElem_range, Function.comp]
    show D.int (l.getD ((0 : Int) + (i : Nat)).toNat 0) = _
    rw [show ((0 : Int) + (i : Nat)).toNat = i by omega, List.getD_eq_getElem?_getD, List.getElem?_eq_getElem h1]
    rfl
theorem row_lc (R : Runs) {es : List (List Int)} {qs : List (Int × Int)} (T : Tt qs (· ∈ es)) (hne : es ≠ []) (hl : es.length ≤ LIM) {o1 : Option M} (f : String) (l : List Int) (hf : (f = "min" ∧ l = lows qs) ∨ (f = "max" ∧ l = highs qs)) :
    lcL [] s [3] (.one 3) (evc R .no) (valD (ev R (.bi1 f (.lc (.idx (.var 2) (.var 3)) (.one 2) (.of (.var 0)) .no [2])))) (rng 0 (qs.length : Int)) [] [some (.val (.lst (es.map vW))), o1, none, none] s = .ok (iD l) [some (.val (.lst (es.map vW))), o1, none, none] s := by
  have hll : l.length = qs.length := by rcases hf with ⟨_, rfl⟩ | ⟨_, rfl⟩ <;> simp
  rw [lc_all (g := hK l) (by simp) [] fun x hx => ?_]
  · rw [List.nil_append, ← hll, rng_hK]
  · obtain ⟨k, rfl, hk⟩ := rng_mem hx
    have hk2 : k < qs.length := by omega
    have e := List.getElem?_eq_getElem hk2
    have hkw : ∀ w ∈ es, k < w.length := fun w hw => by rw [T.len w hw]; exact hk2
    have hc := col_lc (s := s) R hkw (o1 := o1)
    obtain ⟨c1, c2⟩ := col_spec T e
    have hcne : colOf es k ≠ [] := by
      unfold colOf
      cases es with
      | nil => exact absurd rfl hne
      | cons a b => simp
    have hm : bi1 f (.ol (iD (colOf es k))) = some (.val (hK l (.int k))) := by
      rcases hf with ⟨rfl, rfl⟩ | ⟨rfl, rfl⟩
      · rw [min_ol _ hcne, c1]
        show _ = some (M.val (.int ((lows qs).getD (k : Int).toNat 0)))
        unfold lows
        rw [Int.toNat_natCast, List.getD_eq_getElem?_getD, List.getElem?_map, e]
        rfl
      · rw [max_ol _ hcne, c2]
        show _ = some (M.val (.int ((highs qs).getD (k : Int).toNat 0)))
        unfold highs
        rw [Int.toNat_natCast, List.getD_eq_getElem?_getD, List.getElem?_map, e]
        rfl
    refine ⟨[some (.val (.lst (es.map vW))), o1, none, some (.val (.int k))], _, [some (.val (.lst (es.map vW))), o1, none, some (.val (.int k))], rfl, rfl, ?_, rfl⟩
    simp [lcK, wipeOk, wipe, hl]
    rw [hc]
    simp [lcEnd, back, hm]
theorem law_tight_ok (hl : look P "_law_tight" = some F_law_tight) {es : List (List Int)} {qs : List (Int × Int)} (T : Tt qs (· ∈ es)) (hne : es ≠ []) (h1 : es.length ≤ LIM) (h2 : qs.length ≤ 1000) : run P W (n + 1) "_law_tight" [.lst (es.map vW)] s = .ok (.val (.tup [.tup (iD (lows qs)), .tup (iD (highs qs))])) s := by
  rw [run_eq hl rfl (by decide)]
  have hA := row_lc (s := s) (run P W n) T hne h1 (o1 := none) "min" _ (.inl ⟨rfl, rfl⟩)
  have hB := fun o1 => row_lc (s := s) (run P W n) T hne h1 (o1 := o1) "max" _ (.inr ⟨rfl, rfl⟩)
  have hq : qs.length ≤ LIM := Nat.le_trans h2 (by decide)
  obtain ⟨w0, hw0, hat⟩ : ∃ w0 : List Int, w0.length = qs.length ∧ L2.atI (es.map vW) 0 = some (.tup (iD w0)) := by
    cases es with
    | nil => exact absurd rfl hne
    | cons a b => exact ⟨a, T.len a (List.mem_cons_self ..), by rw [List.map_cons]; exact atI_c0 _ _⟩
  have hg : ∀ (e : Env), getI (.val (.int (qs.length : Int))) e s = .ok (qs.length : Int) e s := fun e => getI_len hq
  generalize es.map vW = L at hA hB hat ⊢
  simp [F_law_tight, begun, hat, hw0, hg, lcK, wipeOk, rng_len, hq, wipe]
  rw [hA]
  simp [lcEnd, back, hat, hw0, hg, lcK, wipeOk, rng_len, hq, wipe]
  rw [hB]
  simp [lcEnd, back, gc_self]
/-! a box drawn -/
theorem box_loop (hl : look P "_law_drawn" = some fDrawn) {wide : Int} (hw : 1 ≤ wide ∧ wide ≤ 8) {a0 a1 o7 o8 o9 : Option M} (h0 : a0 = some (.val (.loc 0))) : ∀ (l : List D) (s0 s : Store) (ps : List (Int × Int)) (o5 o6 : Option M), (o6 = none ∨ ∃ d, o6 = some (.val d)) → St ns s → (∀ p ∈ ps, 0 ≤ p.1 ∧ p.1 ≤ p.2 ∧ p.2 ≤ 7) → ps.length + l.length ≤ 1000 → ∃ (qs : List (Int × Int)) (s' : Store) (o5' o6' : Option M),
    (o6' = none ∨ ∃ d, o6' = some (.val d)) ∧ forL [] s0 (.one 5) (execs (run P W (n + 1)) W (.cons (.asg (.one 6) (.bin .mul (.call "_law_drawn" (.cons (.var 0) (.cons (.cst (.int 3)) .nil))) (.call "_law_drawn" (.cons (.var 0) (.cons (.cst (.int 2)) .nil)))))
  (.cons (.mut1 "append" (.var 3) (.var 6))
  (.cons (.mut1 "append" (.var 4) (.bi2 "min" (.cst (.int 7)) (.bin .add (.var 6) (.call "_law_drawn" (.cons (.var 0) (.cons (.var 2) .nil))))))
  .nil)))) l [a0, a1, some (.val (.int wide)), some (.ol (iD (lows ps))), some (.ol (iD (highs ps))), o5, o6, o7, o8, o9] s = .ok .nx [a0, a1, some (.val (.int wide)), some (.ol (iD (lows qs))), some (.ol (iD (highs qs))), o5', o6', o7, o8, o9] s' ∧
    Dr ns s s' ∧ qs.length = ps.length + l.length ∧ ∀ p ∈ qs, 0 ≤ p.1 ∧ p.1 ≤ p.2 ∧ p.2 ≤ 7
  | [], s0, s, ps, o5, o6, ho, hS, hp, _ => ⟨ps, s, o5, o6, ho, by simp, Dr.refl hS, by simp, hp⟩
  | x :: l, s0, s, ps, o5, o6, ho, hS, hp, hlen => by
    rw [List.length_cons] at hlen
    obtain ⟨k1, s1, r1, b1, c1, D1⟩ := drawn_ok (P := P) (W := W) (n := n) (s := s) (ns := ns) hl (many := 3) (by decide) (by decide) hS
    obtain ⟨k2, s2, r2, b2, c2, D2⟩ := drawn_ok (P := P) (W := W) (n := n) (s := s1) (ns := ns) hl (many := 2) (by decide) (by decide) D1.1
    obtain ⟨k3, s3, r3, b3, c3, D3⟩ := drawn_ok (P := P) (W := W) (n := n) (s := s2) (ns := ns) hl (many := wide) (by omega) (by have := hw.2; omega) D2.1
    have hk : 0 ≤ k1 * k2 ∧ k1 * k2 ≤ 2 := by
      rcases (show k2 = 0 ∨ k2 = 1 by omega) with rfl | rfl <;> omega
    obtain ⟨qs, s', o5', o6', ho', h, hD, hlq, hq⟩ := box_loop hl hw (a1 := a1) (o7 := o7) (o8 := o8) (o9 := o9) h0 l s0 s3 (ps ++ [(k1 * k2, min 7 (k1 * k2 + k3))]) (some (.val x)) (some (.val (.int (k1 * k2)))) (.inr ⟨_, rfl⟩) D3.1 (fun p hm => by
      rcases List.mem_append.mp hm with z | z
      · exact hp p z
      · rw [List.mem_singleton] at z
        subst z
        dsimp only
        omega) (by rw [List.length_append, List.length_singleton]; omega)
    refine ⟨qs, s', o5', o6', ho', ?_, ((D1.trans D2).trans D3).trans hD, by rw [hlq, List.length_append, List.length_singleton, List.length_cons]; omega, hq⟩
    subst h0
    have e1 : iD (lows (ps ++ [(k1 * k2, min 7 (k1 * k2 + k3))])) = iD (lows ps) ++ [.int (k1 * k2)] := by unfold iD lows; rw [List.map_append, List.map_append]; rfl
    have e2 : iD (highs (ps ++ [(k1 * k2, min 7 (k1 * k2 + k3))])) = iD (highs ps) ++ [.int (min 7 (k1 * k2 + k3))] := by unfold iD highs; rw [List.map_append, List.map_append]; rfl
    rw [e1, e2] at h
    have hlim : ps.length < LIM := by
      have : LIM = 16777216 := rfl
      omega
    have hmul : bin .mul (.val (.int k1)) (.val (.int k2)) = some (.val (.int (k1 * k2))) := bin_mulI (.inl ⟨by omega, by omega⟩)
    rw [forL_cons]
    simp [r1, r2, r3, hmul, hlim]
    exact h
theorem some_lc (hl : look P "_law_drawn" = some fDrawn) {a1 a2 a3 a4 a5 a7 a9 : Option M} {o6 : Option M} : ∀ (ps : List (Int × Int)) (s0 s : Store) (acc : List D), St ns s → (∀ p ∈ ps, 0 ≤ p.1 ∧ p.1 ≤ p.2 ∧ p.2 ≤ 7) → ∃ (zs : List Int) (s' : Store),
    lcL [.slot 3, .slot 4] s0 [6, 8] (.many [6, 8]) (evc (run P W (n + 1)) .no) (valD (ev (run P W (n + 1)) (.bin .add (.var 6) (.call "_law_drawn" (.cons (.var 0) (.cons (.bin .add (.bin .sub (.var 8) (.var 6)) (.cst (.int 1))) .nil)))))) (ps.map pD) acc [some (.val (.loc 0)), a1, a2, a3, a4, a5, none, a7, none, a9] s = .ok (acc ++ iD zs) [some (.val (.loc 0)), a1, a2, a3, a4, a5, none, a7, none, a9] s' ∧ Dr ns s s'
  | [], s0, s, acc, hS, _ => ⟨[], s, by
      rw [show iD [] = [] from rfl, List.append_nil]
      exact if_pos rfl, Dr.refl hS⟩
  | p :: ps, s0, s, acc, hS, hp => by
    obtain ⟨b1, b2, b3⟩ := hp p (List.mem_cons_self ..)
    obtain ⟨k, s1, r, c1, c2, D1⟩ := drawn_ok (P := P) (W := W) (n := n) (s := s) (ns := ns) hl (many := p.2 - p.1 + 1) (by omega) (by omega) hS
    obtain ⟨zs, s', h, hD⟩ := some_lc hl (o6 := o6) (a1 := a1) (a2 := a2) (a3 := a3) (a4 := a4) (a5 := a5) (a7 := a7) (a9 := a9) ps s0 s1 (acc ++ [.int (p.1 + k)]) D1.1 fun q hq => hp q (List.mem_cons_of_mem _ hq)
    refine ⟨(p.1 + k) :: zs, s', ?_, D1.trans hD⟩
    rw [List.map_cons]
    unfold lcL
    rw [if_pos (show still [Src.slot 3, Src.slot 4] s0 s = true from rfl)]
    simp [pD, r, wipe]
    rw [h, List.append_assoc]
    rfl
theorem law_box_ok (hl1 : look P "_law_drawn" = some fDrawn) (hl : look P "_law_box" = some F_law_box) (hS : St ns s) : ∃ (ps : List (Int × Int)) (t : Option Int) (s' : Store), run P W (n + 2) "_law_box" [.loc 0] s = .ok (.val (bD ps t)) s' ∧ BV ps ∧ Dr ns s s' := by
  obtain ⟨k1, s1, r1, b1, c1, D1⟩ := drawn_ok (P := P) (W := W) (n := n) (s := s) (ns := ns) hl1 (many := 3) (by decide) (by decide) hS
  obtain ⟨wide, hat, hw⟩ : ∃ wide : Int, L2.atI [D.int 8, .int 6, .int 4] k1 = some (.int wide) ∧ 1 ≤ wide ∧ wide ≤ 8 := by
    rcases (show k1 = 0 ∨ k1 = 1 ∨ k1 = 2 by omega) with rfl | rfl | rfl
    · exact ⟨8, by simp, by decide, by decide⟩
    · exact ⟨6, by simp, by decide, by decide⟩
    · exact ⟨4, by simp, by decide, by decide⟩
  obtain ⟨ps, s2, o5, o6, ho6, h2, D2, hlen, hp⟩ := box_loop (W := W) (n := n) (ns := ns) (a0 := some (.val (.loc 0))) (a1 := some (.val (.int (1 + k1)))) (o7 := none) (o8 := none) (o9 := none) hl1 hw rfl (rng 0 (1 + k1)) s1 s1 [] none none (.inl rfl) D1.1 (fun p z => nomatch z) (by rw [rng_len]; simp; omega)
  rw [rng_len] at hlen
  simp only [List.length_nil] at hlen
  have hBV : BV ps := ⟨by omega, by omega, hp⟩
  obtain ⟨zs, s3, h3, D3⟩ := some_lc (W := W) (n := n) (ns := ns) (o6 := o6) (a1 := some (.val (.int (1 + k1)))) (a2 := some (.val (.int wide))) (a3 := some (.ol (iD (lows ps)))) (a4 := some (.ol (iD (highs ps)))) (a5 := o5) (a7 := none) (a9 := none) hl1 ps s2 s2 [] D2.1 hp
  obtain ⟨k4, s4, r4, b4, c4, D4⟩ := drawn_ok (P := P) (W := W) (n := n) (s := s3) (ns := ns) hl1 (many := 4) (by decide) (by decide) D3.1
  obtain ⟨k5, s5, r5, b5, c5, D5⟩ := drawn_ok (P := P) (W := W) (n := n) (s := s4) (ns := ns) hl1 (many := 12) (by decide) (by decide) D4.1
  obtain ⟨k6, s6, r6, b6, c6, D6⟩ := drawn_ok (P := P) (W := W) (n := n) (s := s5) (ns := ns) hl1 (many := 4) (by decide) (by decide) D5.1
  have D15 := (((D1.trans D2).trans D3).trans D4).trans D5
  have D16 := D15.trans D6
  obtain ⟨t4, ht4⟩ : ∃ t : Option Int, L2.atI [D.non, .int zs.sum, .int zs.sum, .int zs.sum] k4 = some (tD t) := by
    rcases (show k4 = 0 ∨ k4 = 1 ∨ k4 = 2 ∨ k4 = 3 by omega) with rfl | rfl | rfl | rfl
    · exact ⟨none, by simp [tD]⟩
    · exact ⟨some zs.sum, by simp [tD]⟩
    · exact ⟨some zs.sum, by simp [tD]⟩
    · exact ⟨some zs.sum, by simp [tD]⟩
  obtain ⟨t6, ht6⟩ : ∃ t : Int, L2.atI [D.int (-1), .int ((lows ps).sum - 1), .int ((highs ps).sum + 1), .int 100000000000000000000000000000000000000000000000000000000000] k6 = some (.int t) := by
    rcases (show k6 = 0 ∨ k6 = 1 ∨ k6 = 2 ∨ k6 = 3 by omega) with rfl | rfl | rfl | rfl
    · exact ⟨_, by simp; rfl⟩
    · exact ⟨_, by simp; rfl⟩
    · exact ⟨_, by simp; rfl⟩
    · exact ⟨_, by simp; rfl⟩
  have hpl : ps.length ≤ LIM := Nat.le_trans hBV.2.1 (by decide)
  have hsum : ∀ l : List Int, bi1 "sum" (.ol (iD l)) = some (.val (.int l.sum)) := fun l => by
    show (match (some (iD l)).bind ints? with | some ns => some (M.val (.int ns.sum)) | none => none) = _
    rw [Option.bind_some, ints_iD]
  have hpairs : pairs (.ol (iD (lows ps))) (.ol (iD (highs ps))) = some (ps.map pD) := by
    rw [← zip_iD]
    rfl
  have hwipe : wipeOk [some (M.val (.loc 0)), some (.val (.int (1 + k1))), some (.val (.int wide)), some (.ol (iD (lows ps))), some (.ol (iD (highs ps))), o5, o6, none, none, none] [6, 8] = true := by
    rcases ho6 with rfl | ⟨d, rfl⟩ <;> rfl
  have hg : ∀ (e : Env) (s : Store), getI (.val (.int (1 + k1))) e s = .ok (1 + k1) e s := fun e s => getI_small (by omega) (by omega)
  have tb : ∀ (p : Pl) (s : Store), bw (.val (tD t4)) p s = (.val (tD t4), none) := fun p s => by cases t4 <;> rfl
  have e0 : iD (lows []) = [] := rfl
  have e1 : iD (highs []) = [] := rfl
  rw [e0, e1] at h2
  rw [List.nil_append] at h3
  have hk1 : 1 + k1 - 1 = k1 := by omega
  by_cases c : k5 = 11
  · refine ⟨ps, some t6, s6, ?_, hBV, D16⟩
    rw [run_eq hl rfl (by decide)]
    subst c
    simp [F_law_box, begun, r1, hat, hg, hk1]
    rw [h2]
    simp [hpairs, lcK, hwipe, hpl, wipe]
    rw [h3]
    simp [lcEnd, back, hsum, r4, ht4, r5, r6, bin_powI, ht6, gc_len, D16.len, bD, tD]
  · refine ⟨ps, t4, s5, ?_, hBV, D15⟩
    rw [run_eq hl rfl (by decide)]
    simp [F_law_box, begun, r1, hat, hg, hk1]
    rw [h2]
    simp [hpairs, lcK, hwipe, hpl, wipe]
    rw [h3]
    simp [lcEnd, back, hsum, r4, ht4, r5, r6, bin_powI, c, gc_len, D15.len, bD]
end
end OI.Y

/-! BX4: refusals told by _law_kind; the sides of a look. -/
namespace OI.Y
open PySem (Str)
section
variable {R : Runs} {e : Env} {s : Store}
@[scoped simp] theorem ev_app (a : IE) : ev R (.app a) e s = (ev R a e s).bind (appK R) := Eq.trans rfl rfl
@[scoped simp] theorem appK_lam (f : String) (ds : List D) (p : Pl) : appK R (.val (.lam f ds), p) e s = callK R f ds e s := Eq.trans rfl rfl
@[scoped simp] theorem ev_lcall (f g : String) (caps : List Nat) : ev R (.lcall f g caps) e s = lcallO R f g (capsOf e caps) e s := Eq.trans rfl rfl
theorem lcall_ok {f g : String} {ds : List D} {m : M} (h : R f [.lam g ds] s = .ok m s) (hf : m.flat = true) : lcallO R f g (some ds) e s = .ok (m, .tmp) e s := by
  show lcallK R f g ds e s = _
  unfold lcallK
  rw [h]
  exact if_pos ⟨rfl, hf⟩
end
section
variable {P : Prog} {W n : Nat} {s : Store} {ns : List Int}
theorem law_kind_ok (hl : look P "_law_kind" = some F_law_kind) {g : String} {ds : List D} {c : String} (h : run P W n g ds s = .err c s) (hc : c = "NoBox" ∨ c = "NoWorld" ∨ c = "NotThere") : run P W (n + 1) "_law_kind" [.lam g ds] s = .ok (.val (.str (Str.ofString c))) s := by
  rw [run_eq hl rfl (by decide)]
  rcases hc with rfl | rfl | rfl
  all_goals
    simp [F_law_kind, begun, exec, h, isSub, tyIs_own, add_olol, bm1_cnt, bm1_idx, findIx, eqv_bl, D.flat, caught, D.noEx, D.noExs, gc_self]
/-! the sides of a look -/
theorem lay_vWs : ∀ l : List (List Int), (D.lst (l.map vW)).lay = true
  | [] => rfl
  | w :: l => by
    have h : (toPy (.lst (l.map vW))).canLay0 = true := lay_vWs l
    have hw : (toPy (vW w)).canLay0 = true := by
      have := lay_ints w
      unfold D.lay at this
      unfold toPy at this
      show (toPy (.tup (w.map .int))).canLay0 = true
      unfold toPy PySem.PyData.canLay0
      unfold PySem.PyData.canLay0 at this
      exact this
    show (toPy (.lst ((w :: l).map vW))).canLay0 = true
    unfold toPy PySem.PyData.canLay0 at h ⊢
    rw [List.map_cons]
    simp only [toPys, PySem.PyData.canLayAll0, h, Bool.and_true]
    exact hw
def geP (k : Nat) (m : Int) (w : List Int) : Bool := decide (m ≤ w.getD k 0)
def ltP (k : Nat) (m : Int) (w : List Int) : Bool := decide (w.getD k 0 < m)
def dP (p : List Int → Bool) : D → Bool
  | .tup xs => (match ints? xs with | some w => p w | none => false)
  | _ => false
theorem dP_vW (p : List Int → Bool) (w : List Int) : dP p (vW w) = p w := by
  show (match ints? (iD w) with | some w => p w | none => false) = p w
  rw [ints_iD]
theorem side_lc (R : Runs) {es : List (List Int)} {k : Nat} (hk : ∀ w ∈ es, k < w.length) {m : Int} {a1 a2 o5 o7 : Option M} (op : COp) (p : List Int → Bool) (hop : (op = .ge ∧ p = geP k m) ∨ (op = .lt ∧ p = ltP k m)) :
    lcL [] s [6] (.one 6) (evc R (.yes (.cmp op (.idx (.var 6) (.var 3)) (.var 4)))) (valD (ev R (.var 6))) (es.map vW) [] [some (.val (.lst (es.map vW))), a1, a2, some (.val (.int k)), some (.val (.int m)), o5, none, o7] s
      = .ok ((es.filter p).map vW) [some (.val (.lst (es.map vW))), a1, a2, some (.val (.int k)), some (.val (.int m)), o5, none, o7] s := by
  rw [lc_filter (p := dP p) (g := id) (by simp) [] fun x hx => ?_]
  · rw [List.nil_append, List.map_id, List.filter_map]
    congr 2
    apply List.filter_congr
    intro w _
    exact dP_vW p w
  · obtain ⟨w, hw, rfl⟩ := List.mem_map.mp hx
    refine ⟨[some (.val (.lst (es.map vW))), a1, a2, some (.val (.int k)), some (.val (.int m)), o5, some (.val (vW w)), o7], [some (.val (.lst (es.map vW))), a1, a2, some (.val (.int k)), some (.val (.int m)), o5, some (.val (vW w)), o7], rfl, ?_, ?_⟩
    · rw [dP_vW]
      rcases hop with ⟨rfl, rfl⟩ | ⟨rfl, rfl⟩
      · simp [vW, at_vW (hk w hw), geP]
      · simp [vW, at_vW (hk w hw), ltP]
    · rw [dP_vW]
      by_cases c : p w = true
      · rw [if_pos c]
        refine ⟨[some (.val (.lst (es.map vW))), a1, a2, some (.val (.int k)), some (.val (.int m)), o5, some (.val (vW w)), o7], ?_, rfl⟩
        simp [vW]
      · rw [if_neg c]
        rfl
theorem empty_vW (l : List (List Int)) : (l.map vW).isEmpty = l.isEmpty := by cases l <;> rfl
theorem sides_out (hl : look P "_law_sides" = some F_law_sides) {es : List (List Int)} {w0 : List Int} {r : List (List Int)} (he : es = w0 :: r) (t : Option Int) {a m : Int} (ha : ¬ (0 ≤ a ∧ a < w0.length)) (hw : w0.length ≤ LIM) : run P W (n + 1) "_law_sides" [.lst (es.map vW), pD (a, m), tD t] s = .ok (.val .non) s := by
  rw [run_eq hl rfl (by decide)]
  have hat : L2.atI (es.map vW) 0 = some (.tup (iD w0)) := by rw [he, List.map_cons]; exact atI_c0 _ _
  generalize es.map vW = L at hat ⊢
  by_cases c : 0 ≤ a
  · have c2 : ¬ a < w0.length := fun h => ha ⟨c, h⟩
    simp [F_law_sides, begun, pD, hat, c, c2, gc_self]
  · simp [F_law_sides, begun, pD, hat, c, gc_self]
theorem sides_none (hl : look P "_law_sides" = some F_law_sides) {es : List (List Int)} (hne : es ≠ []) (hlen : es.length ≤ LIM) {N : Nat} (hN : ∀ w ∈ es, w.length = N) (t : Option Int) {k : Nat} (hk : k < N) (m : Int) (h : es.filter (geP k m) = [] ∨ es.filter (ltP k m) = []) : run P W (n + 1) "_law_sides" [.lst (es.map vW), pD (k, m), tD t] s = .ok (.val .non) s := by
  rw [run_eq hl rfl (by decide)]
  obtain ⟨w0, hw0, hat⟩ : ∃ w0 : List Int, w0.length = N ∧ L2.atI (es.map vW) 0 = some (.tup (iD w0)) := by
    cases es with
    | nil => exact absurd rfl hne
    | cons a b => exact ⟨a, hN a (List.mem_cons_self ..), by rw [List.map_cons]; exact atI_c0 _ _⟩
  have hkw : ∀ w ∈ es, k < w.length := fun w hw => by rw [hN w hw]; exact hk
  have hA := side_lc (s := s) (run P W n) hkw (m := m) (a1 := some (.val (pD (k, m)))) (a2 := some (.val (tD t))) (o5 := none) (o7 := none) .ge _ (.inl ⟨rfl, rfl⟩)
  have hB := fun o5 => side_lc (s := s) (run P W n) hkw (m := m) (a1 := some (.val (pD (k, m)))) (a2 := some (.val (tD t))) (o5 := o5) (o7 := none) .lt _ (.inr ⟨rfl, rfl⟩)
  have e5 := fun x : List (List Int) => eq_L0 (a := .ol (x.map vW)) rfl (lay_vWs x)
  have hll : (es.map vW).length ≤ LIM := by rw [List.length_map]; exact hlen
  have hk1 : (k : Int) < N := by omega
  have b5 : ∀ (x : List (List Int)) (p : Pl) (s : Store), bw (.ol (x.map vW)) p s = (.ol (x.map vW), p.src) := fun x p s => rfl
  generalize hF1 : es.filter (geP k m) = F1 at hA h
  generalize hF2 : es.filter (ltP k m) = F2 at hB h
  generalize es.map vW = L at hA hB hat hll ⊢
  simp [F_law_sides, begun, pD, hat, hw0, hk1] at hA hB ⊢
  simp [lcK, wipeOk, wipe, hll]
  rw [hA]
  simp [lcEnd, back, lcK, wipeOk, wipe, hll]
  rw [hB]
  by_cases c : F1 = []
  · subst c
    simp [lcEnd, back, gc_self]
  · have c2 : F2 = [] := h.resolve_left c
    subst c2
    have := e5 F1
    rw [empty_vW] at this
    have hc : F1.isEmpty = false := by cases F1 <;> first | rfl | exact absurd rfl c
    rw [hc] at this
    simp [lcEnd, back, gc_self, this]
theorem sides_ok (hl1 : look P "_law_tight" = some F_law_tight) (hl : look P "_law_sides" = some F_law_sides) {es : List (List Int)} (hne : es ≠ []) (hlen : es.length ≤ LIM) {N : Nat} (hN : ∀ w ∈ es, w.length = N) (hN2 : N ≤ 1000) (t : Option Int) {k : Nat} (hk : k < N) (m : Int) {ys zs : List (Int × Int)}
    (h1 : es.filter (geP k m) ≠ []) (h2 : es.filter (ltP k m) ≠ []) (Ty : Tt ys (· ∈ es.filter (geP k m))) (Tz : Tt zs (· ∈ es.filter (ltP k m))) : run P W (n + 2) "_law_sides" [.lst (es.map vW), pD (k, m), tD t] s = .ok (.val (.tup [sideD ys t, sideD zs t])) s := by
  rw [run_eq hl rfl (by decide)]
  obtain ⟨w0, hw0, hat⟩ : ∃ w0 : List Int, w0.length = N ∧ L2.atI (es.map vW) 0 = some (.tup (iD w0)) := by
    cases es with
    | nil => exact absurd rfl hne
    | cons a b => exact ⟨a, hN a (List.mem_cons_self ..), by rw [List.map_cons]; exact atI_c0 _ _⟩
  have hkw : ∀ w ∈ es, k < w.length := fun w hw => by rw [hN w hw]; exact hk
  have hA := side_lc (s := s) (run P W (n + 1)) hkw (m := m) (a1 := some (.val (pD (k, m)))) (a2 := some (.val (tD t))) (o5 := none) (o7 := none) .ge _ (.inl ⟨rfl, rfl⟩)
  have hB := fun o5 => side_lc (s := s) (run P W (n + 1)) hkw (m := m) (a1 := some (.val (pD (k, m)))) (a2 := some (.val (tD t))) (o5 := o5) (o7 := none) .lt _ (.inr ⟨rfl, rfl⟩)
  have e5 := fun x : List (List Int) => eq_L0 (a := .ol (x.map vW)) rfl (lay_vWs x)
  have hll : (es.map vW).length ≤ LIM := by rw [List.length_map]; exact hlen
  have hk1 : (k : Int) < N := by omega
  have fl : ∀ p : List Int → Bool, (es.filter p).length ≤ LIM := fun p => Nat.le_trans (List.length_filter_le _ _) hlen
  have lenOf : ∀ {qs : List (Int × Int)} {l : List (List Int)}, l ≠ [] → (∀ w ∈ l, w ∈ es) → Tt qs (· ∈ l) → qs.length ≤ 1000 := fun {qs l} hl hm T => by
    cases l with
    | nil => exact absurd rfl hl
    | cons a b =>
      have := T.len a (List.mem_cons_self ..)
      have := hN a (hm a (List.mem_cons_self ..))
      omega
  have rA := law_tight_ok (W := W) (n := n) (s := s) hl1 Ty h1 (fl _) (lenOf h1 (fun w hw => (List.mem_filter.mp hw).1) Ty)
  have rB := law_tight_ok (W := W) (n := n) (s := s) hl1 Tz h2 (fl _) (lenOf h2 (fun w hw => (List.mem_filter.mp hw).1) Tz)
  generalize hF1 : es.filter (geP k m) = F1 at hA h1 rA
  generalize hF2 : es.filter (ltP k m) = F2 at hB h2 rB
  generalize es.map vW = L at hA hB hat hll ⊢
  have q1 := e5 F1
  have q2 := e5 F2
  rw [empty_vW, show F1.isEmpty = false by cases F1 <;> first | rfl | exact absurd rfl h1] at q1
  rw [empty_vW, show F2.isEmpty = false by cases F2 <;> first | rfl | exact absurd rfl h2] at q2
  have tb : ∀ (p : Pl) (s : Store), vl (.val (tD t)) p = fun e s => Res.ok (M.val (tD t)) e s := fun p s => rfl
  have hlim : (2 : Nat) + 1 ≤ LIM := by decide
  simp [F_law_sides, begun, pD, hat, hw0, hk1] at hA hB ⊢
  simp [lcK, wipeOk, wipe, hll]
  rw [hA]
  simp [lcEnd, back, lcK, wipeOk, wipe, hll]
  rw [hB]
  simp [lcEnd, back, gc_self, q1, q2, rA, rB, bin_addT, hlim, sideD]
end
/-! a look, asked of the worlds -/
theorem Tt.congr {qs : List (Int × Int)} {A B : List Int → Prop} (h : ∀ w, A w ↔ B w) (T : Tt qs A) : Tt qs B :=
  ⟨fun w hw => T.len w ((h w).mpr hw), fun k q e => let ⟨w, a, b⟩ := T.lo k q e; ⟨w, (h w).mp a, b⟩, fun k q e => let ⟨w, a, b⟩ := T.hi k q e; ⟨w, (h w).mp a, b⟩, fun k q w x e hw hx => T.all k q w x e ((h w).mpr hw) hx⟩
theorem ge_iff {ps : List (Int × Int)} {t : Option Int} {k : Nat} {m : Int} (hk : k < ps.length) (w : List Int) : (IsW ps t w ∧ ∃ x, w[k]? = some x ∧ m ≤ x) ↔ w ∈ (wsOf ps t).filter (geP k m) := by
  rw [List.mem_filter, wsOf_mem]
  unfold geP
  rw [decide_eq_true_eq]
  constructor
  · rintro ⟨h, x, h1, h2⟩
    refine ⟨h, ?_⟩
    rw [List.getD_eq_getElem?_getD, h1]
    exact h2
  · rintro ⟨h, h1⟩
    have hl : k < w.length := by rw [inBox_len h.1]; exact hk
    refine ⟨h, w[k], List.getElem?_eq_getElem hl, ?_⟩
    rw [List.getD_eq_getElem?_getD, List.getElem?_eq_getElem hl] at h1
    exact h1
theorem lt_iff {ps : List (Int × Int)} {t : Option Int} {k : Nat} {m : Int} (hk : k < ps.length) (w : List Int) : (IsW ps t w ∧ ∃ x, w[k]? = some x ∧ x < m) ↔ w ∈ (wsOf ps t).filter (ltP k m) := by
  rw [List.mem_filter, wsOf_mem]
  unfold ltP
  rw [decide_eq_true_eq]
  constructor
  · rintro ⟨h, x, h1, h2⟩
    refine ⟨h, ?_⟩
    rw [List.getD_eq_getElem?_getD, h1]
    exact h2
  · rintro ⟨h, h1⟩
    have hl : k < w.length := by rw [inBox_len h.1]; exact hk
    refine ⟨h, w[k], List.getElem?_eq_getElem hl, ?_⟩
    rw [List.getD_eq_getElem?_getD, List.getElem?_eq_getElem hl] at h1
    exact h1
theorem look_in {ps qs : List (Int × Int)} {t : Option Int} (ok : BOk ps) (hn : narB ps t = some qs) {a m : Int} (h : (a, m) ∈ looksFrom 0 qs) : ∃ (k : Nat) (q : Int × Int) (ys zs : List (Int × Int)), a = k ∧ k < ps.length ∧ qs[k]? = some q ∧
    narB (qs.set k (m, q.2)) t = some ys ∧ narB (qs.set k (q.1, m - 1)) t = some zs ∧ (wsOf ps t).filter (geP k m) ≠ [] ∧ (wsOf ps t).filter (ltP k m) ≠ [] ∧ Tt ys (· ∈ (wsOf ps t).filter (geP k m)) ∧ Tt zs (· ∈ (wsOf ps t).filter (ltP k m)) := by
  obtain ⟨k, q, e, ha, h1, h2⟩ := looks_mem.mp h
  have hk : k < ps.length := by rw [← narB_len hn]; exact (List.getElem?_eq_some_iff.mp e).1
  obtain ⟨ys, hy, Ty⟩ := yes_of ok hn e h1 h2
  obtain ⟨zs, hz, Tz⟩ := no_of ok hn e h1 h2
  have T := narB_some ok hn
  refine ⟨k, q, ys, zs, by rw [ha]; simp, hk, e, hy, hz, fun hc => ?_, fun hc => ?_, Ty.congr (ge_iff hk), Tz.congr (lt_iff hk)⟩
  · obtain ⟨w, g1, g2⟩ := T.hi k q e
    have := (ge_iff (m := m) hk w).mp ⟨g1, _, g2, h2⟩
    rw [hc] at this
    cases this
  · obtain ⟨w, g1, g2⟩ := T.lo k q e
    have := (lt_iff (m := m) hk w).mp ⟨g1, _, g2, h1⟩
    rw [hc] at this
    cases this
theorem look_out {ps qs : List (Int × Int)} {t : Option Int} (ok : BOk ps) (hn : narB ps t = some qs) {a m : Int} (h : (a, m) ∉ looksFrom 0 qs) : ¬ (0 ≤ a ∧ a < ps.length) ∨ ∃ k : Nat, a = k ∧ k < ps.length ∧ ((wsOf ps t).filter (geP k m) = [] ∨ (wsOf ps t).filter (ltP k m) = []) := by
  by_cases ha : 0 ≤ a ∧ a < ps.length
  · obtain ⟨k, rfl⟩ : ∃ k : Nat, a = k := ⟨a.toNat, by omega⟩
    have hk : k < ps.length := by omega
    refine .inr ⟨k, rfl, hk, ?_⟩
    have hq : k < qs.length := by rw [narB_len hn]; exact hk
    have e := List.getElem?_eq_getElem hq
    have T := narB_some ok hn
    have hnot : ¬ (qs[k].1 < m ∧ m ≤ qs[k].2) := fun hc => h (looks_mem.mpr ⟨k, qs[k], e, by simp, hc.1, hc.2⟩)
    by_cases c : qs[k].1 < m
    · left
      rw [List.filter_eq_nil_iff]
      intro w hw hp
      obtain ⟨g1, x, g2, g3⟩ := (ge_iff hk w).mpr (List.mem_filter.mpr ⟨hw, hp⟩)
      have := T.all k _ w x e g1 g2
      omega
    · right
      rw [List.filter_eq_nil_iff]
      intro w hw hp
      obtain ⟨g1, x, g2, g3⟩ := (lt_iff hk w).mpr (List.mem_filter.mpr ⟨hw, hp⟩)
      have := T.all k _ w x e g1 g2
      omega
  · exact .inl ha
theorem plain_iD : ∀ l : List Int, D.plains (iD l) = true ∧ D.talls (iD l) = 0
  | [] => ⟨rfl, rfl⟩
  | a :: l => by
    obtain ⟨h1, h2⟩ := plain_iD l
    have e : iD (a :: l) = .int a :: iD l := rfl
    rw [e]
    unfold D.plains D.talls
    rw [h1, h2]
    exact ⟨rfl, rfl⟩
theorem plain_T {l : List Int} (h : l.length ≤ LIM) : D.plain (D.tup (iD l)) = true ∧ D.tall (D.tup (iD l)) = 1 := by
  unfold D.plain D.tall
  rw [(plain_iD l).1, (plain_iD l).2, iD_len, decide_eq_true h]
  exact ⟨rfl, rfl⟩
theorem plain_side {qs : List (Int × Int)} (t : Option Int) (h : qs.length ≤ LIM) : D.plain (sideD qs t) = true ∧ D.tall (sideD qs t) = 2 := by
  obtain ⟨a1, a2⟩ := plain_T (l := lows qs) (by simpa using h)
  obtain ⟨b1, b2⟩ := plain_T (l := highs qs) (by simpa using h)
  have c1 : D.plain (tD t) = true ∧ D.tall (tD t) = 0 := by cases t <;> exact ⟨rfl, rfl⟩
  constructor
  · show (decide ((3 : Nat) ≤ LIM) && (D.plain (D.tup (iD (lows qs))) && (D.plain (D.tup (iD (highs qs))) && (D.plain (tD t) && true)))) = true
    rw [a1, b1, c1.1]
    rfl
  · show max (D.tall (D.tup (iD (lows qs)))) (max (D.tall (D.tup (iD (highs qs)))) (max (D.tall (tD t)) 0)) + 1 = 2
    rw [a2, b2, c1.2]
    rfl
end OI.Y

/-! SE0: the least looks of a box, in plain Lean. -/
namespace OI.Y
open PySem (Str)
abbrev Bx := List (Int × Int)
/-- a tight box -/
structure GB (t : Option Int) (qs : Bx) : Prop where
  bw : BW qs
  ti : narB qs t = some qs
section
variable {t : Option Int} {ps qs ys : Bx} {l : Int × Int}
theorem GB.ok (h : GB t qs) : BOk qs := fun p hp => (h.bw.2 p hp).2.1
theorem Tt.uniq {A : List Int → Prop} (T : Tt qs A) (T' : Tt ys A) (h : ∃ w, A w) : qs = ys := by
  obtain ⟨w, hw⟩ := h
  have hl : qs.length = ys.length := (T.len w hw).symm.trans (T'.len w hw)
  apply List.ext_getElem hl
  intro k h1 h2
  have e1 := List.getElem?_eq_getElem h1
  have e2 := List.getElem?_eq_getElem h2
  obtain ⟨w1, a1, b1⟩ := T.lo k _ e1
  obtain ⟨w2, a2, b2⟩ := T.hi k _ e1
  obtain ⟨w3, a3, b3⟩ := T'.lo k _ e2
  obtain ⟨w4, a4, b4⟩ := T'.hi k _ e2
  have c1 := (T'.all k _ w1 _ e2 a1 b1).1
  have c2 := (T'.all k _ w2 _ e2 a2 b2).2
  have c3 := (T.all k _ w3 _ e1 a3 b3).1
  have c4 := (T.all k _ w4 _ e1 a4 b4).2
  exact Prod.ext (by omega) (by omega)
theorem narB_tight (ok : BOk ps) (h : narB ps t = some qs) : narB qs t = some qs := by
  have T := narB_some ok h
  have okq := T.ok
  obtain ⟨w, hw⟩ := narB_ex ok h
  cases h' : narB qs t with
  | none => exact absurd ((narB_in ok h).mpr hw) (narB_none h' w)
  | some qs' =>
    have T' := (narB_some okq h').congr fun w => narB_in ok h
    rw [T.uniq T' ⟨w, hw⟩]
/-- a box within another one -/
def Sb (ys qs : Bx) : Prop := ys.length = qs.length ∧ ∀ (k : Nat) (y q : Int × Int), ys[k]? = some y → qs[k]? = some q → q.1 ≤ y.1 ∧ y.2 ≤ q.2
theorem narB_sb (ok : BOk ps) (h : narB ps t = some qs) : Sb qs ps := by
  have T := narB_some ok h
  refine ⟨narB_len h, fun k q p e1 e2 => ?_⟩
  obtain ⟨w1, a1, a2⟩ := T.lo k q e1
  obtain ⟨w2, b1, b2⟩ := T.hi k q e1
  obtain ⟨x, c1, c2⟩ := inBox_get a1.1 e2
  obtain ⟨y, d1, d2⟩ := inBox_get b1.1 e2
  rw [a2] at c1
  rw [b2] at d1
  cases c1
  cases d1
  omega
theorem Sb.trans {zs : Bx} (a : Sb zs ys) (b : Sb ys qs) : Sb zs qs := ⟨a.1.trans b.1, fun k z q e1 e2 => by
  have hlt : k < ys.length := by rw [← a.1]; exact (List.getElem?_eq_some_iff.mp e1).1
  have e := List.getElem?_eq_getElem hlt
  have h1 := a.2 k z _ e1 e
  have h2 := b.2 k _ q e e2
  omega⟩
theorem BW.sb (h : BW ps) (s : Sb qs ps) (ok : BOk qs) : BW qs := by
  refine ⟨by rw [s.1]; exact h.1, fun q hq => ?_⟩
  obtain ⟨k, hk⟩ := List.getElem?_of_mem hq
  have hlt : k < ps.length := by rw [← s.1]; exact (List.getElem?_eq_some_iff.mp hk).1
  have g := s.2 k q _ hk (List.getElem?_eq_getElem hlt)
  have g2 := h.2 _ (List.getElem_mem hlt)
  have := ok q hq
  omega
theorem BW.ok (h : BW ps) : BOk ps := fun p hp => (h.2 p hp).2.1
theorem BW.gb (h : BW ps) (e : narB ps t = some qs) : GB t qs := ⟨h.sb (narB_sb h.ok e) (narB_some h.ok e).ok, narB_tight h.ok e⟩
theorem BV.bw0 (h : BV ps) : BW ps := ⟨h.2.1, h.2.2⟩
def wid (qs : Bx) : Nat := (qs.map fun q => (q.2 - q.1).toNat).sum
theorem wid_le : ∀ {ys qs : Bx}, BOk ys → Sb ys qs → wid ys ≤ wid qs
  | [], qs, _, s => by
    have : qs = [] := List.eq_nil_of_length_eq_zero s.1.symm
    subst this
    exact Nat.le_refl _
  | y :: ys, [], _, s => by cases s.1
  | y :: ys, q :: qs, ok, s => by
    have h0 := s.2 0 y q rfl rfl
    have ih := wid_le (ys := ys) (qs := qs) ok.tail.2 ⟨by simpa using s.1, fun k a b e1 e2 => s.2 (k + 1) a b (by simpa using e1) (by simpa using e2)⟩
    have := ok.tail.1
    unfold wid at ih ⊢
    simp only [List.map_cons, List.sum_cons]
    omega
theorem wid_set : ∀ {qs : Bx} {k : Nat} {q r : Int × Int}, qs[k]? = some q → (wid (qs.set k r) : Int) = wid qs - (q.2 - q.1).toNat + (r.2 - r.1).toNat
  | [], k, q, r, e => by simp at e
  | p :: qs, 0, q, r, e => by
    simp at e
    subst e
    unfold wid
    simp only [List.set_cons_zero, List.map_cons, List.sum_cons]
    omega
  | p :: qs, k + 1, q, r, e => by
    have ih := wid_set (r := r) (show qs[k]? = some q by simpa using e)
    unfold wid at ih ⊢
    simp only [List.set_cons_succ, List.map_cons, List.sum_cons]
    omega
theorem wid_looks (ok : BOk qs) (h : wid qs = 0) : looksFrom 0 qs = [] := by
  apply List.eq_nil_iff_forall_not_mem.mpr
  rintro ⟨a, m⟩ hm
  obtain ⟨j, q, e, _, h1, h2⟩ := looks_mem.mp hm
  have := wid_set (r := (q.1, q.1)) e
  have := ok q (List.mem_of_getElem? e)
  omega
/-- behind yes, behind no -/
def yB (t : Option Int) (qs : Bx) (l : Int × Int) : Bx := (narB (qs.set l.1.toNat (l.2, (qs.getD l.1.toNat (0, 0)).2)) t).getD []
def nB (t : Option Int) (qs : Bx) (l : Int × Int) : Bx := (narB (qs.set l.1.toNat ((qs.getD l.1.toNat (0, 0)).1, l.2 - 1)) t).getD []
structure Split (t : Option Int) (qs : Bx) (l : Int × Int) (k : Nat) (q : Int × Int) : Prop where
  a : l.1 = (k : Int)
  at' : qs[k]? = some q
  lt : q.1 < l.2
  le : l.2 ≤ q.2
  ny : narB (qs.set k (l.2, q.2)) t = some (yB t qs l)
  nn : narB (qs.set k (q.1, l.2 - 1)) t = some (nB t qs l)
  gy : GB t (yB t qs l)
  gn : GB t (nB t qs l)
  wy : wid (yB t qs l) < wid qs
  wn : wid (nB t qs l) < wid qs
  iy : ∀ w, IsW (yB t qs l) t w ↔ IsW qs t w ∧ ∃ x, w[k]? = some x ∧ l.2 ≤ x
  in' : ∀ w, IsW (nB t qs l) t w ↔ IsW qs t w ∧ ∃ x, w[k]? = some x ∧ x < l.2
  sy : Sb (yB t qs l) (qs.set k (l.2, q.2))
  sn : Sb (nB t qs l) (qs.set k (q.1, l.2 - 1))
theorem look_split (g : GB t qs) (hl : l ∈ looksFrom 0 qs) : ∃ k q, Split t qs l k q := by
  obtain ⟨a, m⟩ := l
  obtain ⟨k, q, e, ha, h1, h2⟩ := looks_mem.mp hl
  have ha : a = (k : Int) := by omega
  subst ha
  obtain ⟨y, hy, _⟩ := yes_of g.ok g.ti e h1 h2
  obtain ⟨z, hz, _⟩ := no_of g.ok g.ti e h1 h2
  have ed : qs.getD k (0, 0) = q := by rw [List.getD_eq_getElem?_getD, e]; rfl
  have eY : yB t qs (↑k, m) = y := by
    unfold yB
    simp only [Int.toNat_natCast, ed, hy]
    rfl
  have eN : nB t qs (↑k, m) = z := by
    unfold nB
    simp only [Int.toNat_natCast, ed, hz]
    rfl
  have okY : BOk (qs.set k (m, q.2)) := g.ok.set h2
  have okN : BOk (qs.set k (q.1, m - 1)) := g.ok.set (show q.1 ≤ m - 1 by omega)
  have hq := g.bw.2 q (List.mem_of_getElem? e)
  have bY : BW (qs.set k (m, q.2)) := ⟨by rw [List.length_set]; exact g.bw.1, fun r hr => by
    rcases List.mem_or_eq_of_mem_set hr with h | h
    · exact g.bw.2 r h
    · subst h; dsimp only; omega⟩
  have bN : BW (qs.set k (q.1, m - 1)) := ⟨by rw [List.length_set]; exact g.bw.1, fun r hr => by
    rcases List.mem_or_eq_of_mem_set hr with h | h
    · exact g.bw.2 r h
    · subst h; dsimp only; omega⟩
  have sY := narB_sb okY hy
  have sN := narB_sb okN hz
  have w1 := wid_le (narB_some okY hy).ok sY
  have w2 := wid_le (narB_some okN hz).ok sN
  have w3 := wid_set (r := (m, q.2)) e
  have w4 := wid_set (r := (q.1, m - 1)) e
  dsimp only at w3 w4
  refine ⟨k, q, rfl, e, h1, h2, by rw [eY]; exact hy, by rw [eN]; exact hz, by rw [eY]; exact bY.gb hy, by rw [eN]; exact bN.gb hz, by rw [eY]; omega, by rw [eN]; omega, fun w => ?_, fun w => ?_, by rw [eY]; exact sY, by rw [eN]; exact sN⟩
  · rw [eY, narB_in okY hy]
    refine ⟨fun hw => ?_, fun ⟨hw, x, hx, hm⟩ => ?_⟩
    · obtain ⟨g1, x, g2, g3, g4⟩ := inBox_unset (q := (m, q.2)) e (by dsimp only; omega) (Int.le_refl _) hw.1
      exact ⟨⟨g1, hw.2⟩, x, g2, g3⟩
    · obtain ⟨y, g1, g2⟩ := inBox_get hw.1 e
      rw [hx] at g1
      cases g1
      exact ⟨inBox_set hw.1 hx hm g2.2, hw.2⟩
  · rw [eN, narB_in okN hz]
    refine ⟨fun hw => ?_, fun ⟨hw, x, hx, hm⟩ => ?_⟩
    · obtain ⟨g1, x, g2, g3, g4⟩ := inBox_unset (q := (q.1, m - 1)) e (Int.le_refl _) (by dsimp only; omega) hw.1
      exact ⟨⟨g1, hw.2⟩, x, g2, by dsimp only at g4 ⊢; omega⟩
    · obtain ⟨y, g1, g2⟩ := inBox_get hw.1 e
      rw [hx] at g1
      cases g1
      exact ⟨inBox_set hw.1 hx g2.1 (by dsimp only at hm ⊢; omega), hw.2⟩
/-! ### the least depth -/
def stepB (f : Int × Int → Int) (found : Int × Option (Int × Int)) (l : Int × Int) : Int × Option (Int × Int) := if found.2 = none ∨ f l < found.1 then (f l, some l) else found
def bestF (t : Option Int) : Nat → Bx → Int × Option (Int × Int)
  | 0, _ => (0, none)
  | n + 1, qs => (looksFrom 0 qs).foldl (stepB fun l => 1 + max (bestF t n (yB t qs l)).1 (bestF t n (nB t qs l)).1) (0, none)
theorem stepB_congr {f g : Int × Int → Int} : ∀ {L : List (Int × Int)} (a : Int × Option (Int × Int)), (∀ l ∈ L, f l = g l) → L.foldl (stepB f) a = L.foldl (stepB g) a
  | [], a, h => rfl
  | l :: L, a, h => by
    rw [List.foldl_cons, List.foldl_cons, stepB_congr _ fun l' hl => h l' (List.mem_cons_of_mem _ hl)]
    unfold stepB
    rw [h l (List.mem_cons_self ..)]
theorem bestF_same : ∀ {n m : Nat} {qs : Bx}, GB t qs → wid qs ≤ n → wid qs ≤ m → bestF t n qs = bestF t m qs
  | 0, 0, qs, g, h1, h2 => rfl
  | 0, m + 1, qs, g, h1, h2 => by
    unfold bestF
    rw [wid_looks g.ok (by omega)]
    rfl
  | n + 1, 0, qs, g, h1, h2 => by
    unfold bestF
    rw [wid_looks g.ok (by omega)]
    rfl
  | n + 1, m + 1, qs, g, h1, h2 => by
    unfold bestF
    refine stepB_congr _ fun l hl => ?_
    obtain ⟨k, q, s⟩ := look_split g hl
    have := s.wy
    have := s.wn
    rw [bestF_same (n := n) (m := m) s.gy (by omega) (by omega), bestF_same (n := n) (m := m) s.gn (by omega) (by omega)]
def best (t : Option Int) (qs : Bx) : Int × Option (Int × Int) := bestF t (wid qs) qs
def dep (t : Option Int) (qs : Bx) : Int := (best t qs).1
/-- the depth by a look -/
def dl (t : Option Int) (qs : Bx) (l : Int × Int) : Int := 1 + max (dep t (yB t qs l)) (dep t (nB t qs l))
theorem best_eq (g : GB t qs) : best t qs = (looksFrom 0 qs).foldl (stepB (dl t qs)) (0, none) := by
  have h : best t qs = bestF t (wid qs + 1) qs := bestF_same g (Nat.le_refl _) (by omega)
  rw [h]
  unfold bestF
  refine stepB_congr _ fun l hl => ?_
  obtain ⟨k, q, s⟩ := look_split g hl
  have := s.wy
  have := s.wn
  unfold dl dep best
  rw [bestF_same (n := wid qs) (m := wid (yB t qs l)) s.gy (by omega) (by omega), bestF_same (n := wid qs) (m := wid (nB t qs l)) s.gn (by omega) (by omega)]
theorem fold_min {f : Int × Int → Int} : ∀ {L : List (Int × Int)} {b : Int} {l0 : Int × Int}, f l0 = b → ∃ l, (l = l0 ∨ l ∈ L) ∧ L.foldl (stepB f) (b, some l0) = (f l, some l) ∧ f l ≤ b ∧ ∀ l' ∈ L, f l ≤ f l'
  | [], b, l0, h => ⟨l0, .inl rfl, by rw [h]; rfl, by omega, fun _ z => by cases z⟩
  | x :: L, b, l0, h => by
    rw [List.foldl_cons]
    by_cases c : f x < b
    · have e : stepB f (b, some l0) x = (f x, some x) := by
        unfold stepB
        rw [if_pos (.inr c)]
      rw [e]
      obtain ⟨l, h1, h2, h3, h4⟩ := fold_min (L := L) (b := f x) (l0 := x) rfl
      refine ⟨l, .inr ?_, h2, by omega, fun l' hl => ?_⟩
      · rcases h1 with rfl | h1
        · exact List.mem_cons_self ..
        · exact List.mem_cons_of_mem _ h1
      · rcases List.mem_cons.mp hl with rfl | hl
        · exact h3
        · exact h4 l' hl
    · have e : stepB f (b, some l0) x = (b, some l0) := by
        unfold stepB
        rw [if_neg]
        rintro (z | z)
        · cases z
        · exact c z
      rw [e]
      obtain ⟨l, h1, h2, h3, h4⟩ := fold_min (L := L) (b := b) (l0 := l0) h
      refine ⟨l, ?_, h2, h3, fun l' hl => ?_⟩
      · rcases h1 with rfl | h1
        · exact .inl rfl
        · exact .inr (List.mem_cons_of_mem _ h1)
      · rcases List.mem_cons.mp hl with rfl | hl
        · omega
        · exact h4 l' hl
theorem best_nil (g : GB t qs) (h : looksFrom 0 qs = []) : best t qs = (0, none) := by
  rw [best_eq g, h]
  rfl
theorem best_cons (g : GB t qs) (h : looksFrom 0 qs ≠ []) : ∃ l ∈ looksFrom 0 qs, best t qs = (dl t qs l, some l) ∧ ∀ l' ∈ looksFrom 0 qs, dl t qs l ≤ dl t qs l' := by
  rw [best_eq g]
  cases e : looksFrom 0 qs with
  | nil => exact absurd e h
  | cons x L =>
    rw [List.foldl_cons]
    have e2 : stepB (dl t qs) (0, none) x = (dl t qs x, some x) := by
      unfold stepB
      rw [if_pos (.inl rfl)]
    rw [e2]
    obtain ⟨l, h1, h2, h3, h4⟩ := fold_min (f := dl t qs) (L := L) (b := dl t qs x) (l0 := x) rfl
    refine ⟨l, ?_, h2, fun l' hl => ?_⟩
    · rcases h1 with rfl | h1
      · exact List.mem_cons_self ..
      · exact List.mem_cons_of_mem _ h1
    · rcases List.mem_cons.mp hl with rfl | hl
      · exact h3
      · exact h4 l' hl
theorem dep_nonneg : ∀ (n : Nat) {qs : Bx}, wid qs ≤ n → GB t qs → 0 ≤ dep t qs
  | n, qs, hn, g => by
    by_cases h : looksFrom 0 qs = []
    · unfold dep
      rw [best_nil g h]
      exact Int.le_refl _
    · obtain ⟨l, hl, e, _⟩ := best_cons g h
      obtain ⟨k, q, s⟩ := look_split g hl
      have := s.wy
      cases n with
      | zero => omega
      | succ n =>
        have h1 := dep_nonneg n (show wid (yB t qs l) ≤ n by omega) s.gy
        unfold dep at h1 ⊢
        rw [e]
        show 0 ≤ 1 + max (dep t (yB t qs l)) (dep t (nB t qs l))
        unfold dep
        omega
theorem dep_pos (g : GB t qs) (h : looksFrom 0 qs ≠ []) : 0 < dep t qs := by
  obtain ⟨l, hl, e, _⟩ := best_cons g h
  obtain ⟨k, q, s⟩ := look_split g hl
  have h1 := dep_nonneg _ (Nat.le_refl _) s.gy
  unfold dep
  rw [e]
  show 0 < 1 + max (dep t (yB t qs l)) (dep t (nB t qs l))
  omega
theorem dep_zero (g : GB t qs) : dep t qs = 0 ↔ looksFrom 0 qs = [] := by
  constructor
  · intro h
    by_cases c : looksFrom 0 qs = []
    · exact c
    · have := dep_pos g c
      omega
  · intro h
    unfold dep
    rw [best_nil g h]
theorem dep_le (g : GB t qs) (hl : l ∈ looksFrom 0 qs) : dep t qs ≤ dl t qs l := by
  obtain ⟨l0, _, e, h⟩ := best_cons g (fun z => by rw [z] at hl; cases hl)
  unfold dep
  rw [e]
  exact h l hl
theorem dep_look (g : GB t qs) (h : looksFrom 0 qs ≠ []) : ∃ l ∈ looksFrom 0 qs, dep t qs = dl t qs l ∧ best t qs = (dep t qs, some l) := by
  obtain ⟨l, hl, e, _⟩ := best_cons g h
  refine ⟨l, hl, by unfold dep; rw [e], ?_⟩
  unfold dep
  rw [e]
theorem dep_wid : ∀ (n : Nat) {qs : Bx}, wid qs ≤ n → GB t qs → dep t qs ≤ n
  | n, qs, hn, g => by
    by_cases h : looksFrom 0 qs = []
    · rw [(dep_zero g).mpr h]
      omega
    · obtain ⟨l, hl, e, _⟩ := dep_look g h
      obtain ⟨k, q, s⟩ := look_split g hl
      have h0 := s.wy
      have h00 := s.wn
      cases n with
      | zero => omega
      | succ n =>
        have h1 := dep_wid n (show wid (yB t qs l) ≤ n by omega) s.gy
        have h2 := dep_wid n (show wid (nB t qs l) ≤ n by omega) s.gn
        rw [e]
        unfold dl
        omega
theorem no_looks_iff (ok : BOk qs) : looksFrom 0 qs = [] ↔ lows qs = highs qs := by
  constructor
  · intro h
    have main : ∀ k : Nat, (lows qs)[k]? = (highs qs)[k]? := fun k => by
      unfold lows highs
      rw [List.getElem?_map, List.getElem?_map]
      cases e : qs[k]? with
      | none => rfl
      | some q =>
        have := ok _ (List.mem_of_getElem? e)
        rcases Int.lt_or_le q.1 q.2 with c | c
        · have : ((k : Int), q.2) ∈ looksFrom 0 qs := looks_mem.mpr ⟨k, q, e, by simp, c, Int.le_refl _⟩
          rw [h] at this
          cases this
        · show some q.1 = some q.2
          rw [show q.1 = q.2 by omega]
    exact List.ext_getElem? main
  · intro h
    apply List.eq_nil_iff_forall_not_mem.mpr
    rintro ⟨a, m⟩ hm
    obtain ⟨j, q, e, _, h1, h2⟩ := looks_mem.mp hm
    have e1 : (lows qs)[j]? = some q.1 := by unfold lows; rw [List.getElem?_map, e]; rfl
    have e2 : (highs qs)[j]? = some q.2 := by unfold highs; rw [List.getElem?_map, e]; rfl
    rw [h, e2] at e1
    have := Option.some.inj e1
    omega
end
end OI.Y

/-! SE1: the program's Search, reckoned: best, worst, plan, least. -/
namespace OI.Y
open PySem (Str)
def F_Search_init : Fn := ⟨2, 2, (.cons (.setA (.var 0) "total" (.var 1))
  (.cons (.setA (.var 0) "known" (.dct true .nil))
  .nil))⟩
def F_Search_best : Fn := ⟨2, 5, (.cons (.ifs (.cmp .nin (.var 1) (.attr (.var 0) "known")) (.cons (.asg (.one 2) (.tup (.cons (.cst (.int 0)) (.cons (.cst .non) .nil))))
  (.cons (.fors (.one 3) (.of (.call "looks_in" (.cons (.idx (.var 1) (.cst (.int 0))) (.cons (.idx (.var 1) (.cst (.int 1))) .nil)))) (.cons (.asg (.one 4) (.bin .add (.cst (.int 1)) (.meth (.var 0) "Search" "worst" (.cons (.var 1) (.cons (.var 3) .nil)))))
  (.cons (.ifs (.either (.isN false (.idx (.var 2) (.cst (.int 1)))) (.cmp .lt (.var 4) (.idx (.var 2) (.cst (.int 0))))) (.cons (.asg (.one 2) (.tup (.cons (.var 4) (.cons (.var 3) .nil))))
  .nil) .nil)
  .nil)))
  (.cons (.setI (.attr (.var 0) "known") (.var 1) (.var 2))
  .nil))) .nil)
  (.cons (.ret (.idx (.attr (.var 0) "known") (.var 1)))
  .nil))⟩
def F_Search_worst : Fn := ⟨3, 5, (.cons (.asg (.many [3, 4]) (.call "answered" (.cons (.idx (.var 1) (.cst (.int 0))) (.cons (.idx (.var 1) (.cst (.int 1))) (.cons (.attr (.var 0) "total") (.cons (.var 2) .nil))))))
  (.cons (.ret (.bi2 "max" (.idx (.meth (.var 0) "Search" "best" (.cons (.var 3) .nil)) (.cst (.int 0))) (.idx (.meth (.var 0) "Search" "best" (.cons (.var 4) .nil)) (.cst (.int 0)))))
  .nil))⟩
def F_Search_plan : Fn := ⟨2, 5, (.cons (.asg (.one 2) (.idx (.meth (.var 0) "Search" "best" (.cons (.var 1) .nil)) (.cst (.int 1))))
  (.cons (.ifs (.isN false (.var 2)) (.cons (.ret (.tup .nil))
  .nil) .nil)
  (.cons (.asg (.many [3, 4]) (.call "answered" (.cons (.idx (.var 1) (.cst (.int 0))) (.cons (.idx (.var 1) (.cst (.int 1))) (.cons (.attr (.var 0) "total") (.cons (.var 2) .nil))))))
  (.cons (.ret (.bin .add (.var 2) (.tup (.cons (.meth (.var 0) "Search" "plan" (.cons (.var 3) .nil)) (.cons (.meth (.var 0) "Search" "plan" (.cons (.var 4) .nil)) .nil)))))
  .nil))))⟩
def F_least : Fn := ⟨1, 5, (.cons (.asg (.many [1, 2, 3]) (.call "tight" (.cons (.var 0) .nil)))
  (.cons (.asg (.one 4) (.new "Search" (.cons (.var 3) .nil)))
  (.cons (.ret (.tup (.cons (.idx (.meth (.var 4) "Search" "best" (.cons (.tup (.cons (.var 1) (.cons (.var 2) .nil))) .nil)) (.cst (.int 0))) (.cons (.meth (.var 4) "Search" "plan" (.cons (.tup (.cons (.var 1) (.cons (.var 2) .nil))) .nil)) .nil))))
  .nil)))⟩
/-- sides, as a key -/
def sD (qs : Bx) : D := .tup [.tup (iD (lows qs)), .tup (iD (highs qs))]
def lkD : Option (Int × Int) → D
  | none => .non
  | some l => pD l
def bstD (r : Int × Option (Int × Int)) : D := .tup [.int r.1, lkD r.2]
def SrO (t : Option Int) (kvs : List (D × D)) : SObj := .ins "Search" [("total", .val (tD t)), ("known", .od true kvs)]
theorem all_iD (l : List Int) : (iD l).all D.isIn = true := by
  unfold iD
  rw [List.all_map]
  exact List.all_eq_true.mpr fun _ _ => rfl
@[scoped simp] theorem key_sD (qs : Bx) : keyOk true (sD qs) = true := by
  show ((iD (lows qs)).all D.isIn && ((iD (highs qs)).all D.isIn && true)) = true
  rw [all_iD, all_iD]
  rfl
theorem iD_inj {a b : List Int} (h : iD a = iD b) : a = b := (List.map_inj_right (fun x y e => by cases e; rfl)).mp h
theorem sD_inj {a b : Bx} (h : sD a = sD b) : a = b := by
  unfold sD at h
  simp only [D.tup.injEq, List.cons.injEq, and_true] at h
  have h1 := iD_inj h.1
  have h2 := iD_inj h.2
  have hz : ∀ q : Bx, q = (lows q).zip (highs q) := fun q => by
    unfold lows highs
    rw [List.zip_map']
    simp
  rw [hz a, hz b, h1, h2]
/-- what is known -/
structure Kn (t : Option Int) (kvs : List (D × D)) : Prop where
  all : ∀ p ∈ kvs, ∃ qs, GB t qs ∧ p = (sD qs, bstD (best t qs))
  nd : (kvs.map (·.1)).Nodup
theorem Kn.nil (t : Option Int) : Kn t [] := ⟨fun _ h => (by cases h), List.nodup_nil⟩
theorem dget_mem {k d : D} : ∀ {kvs : List (D × D)}, dget kvs k = some d → (k, d) ∈ kvs
  | [], h => by cases h
  | (a, b) :: r, h => by
    rw [dget_cons] at h
    split at h
    · rename_i e
      cases h
      rw [e]
      exact List.mem_cons_self ..
    · exact List.mem_cons_of_mem _ (dget_mem h)
theorem dget_none {k : D} : ∀ {kvs : List (D × D)}, dget kvs k = none → k ∉ kvs.map (·.1)
  | [], h => by simp
  | (a, b) :: r, h => by
    rw [dget_cons] at h
    split at h
    · cases h
    · rename_i e
      rw [List.map_cons, List.mem_cons, not_or]
      exact ⟨fun z => e z.symm, dget_none h⟩
theorem dput_new {k d : D} {kvs : List (D × D)} (h : dget kvs k = none) : dput kvs k d = kvs ++ [(k, d)] := by
  have : (kvs.any fun p => decide (p.1 = k)) = false := by
    rw [List.any_eq_false]
    intro p hp hk
    exact dget_none h (List.mem_map.mpr ⟨p, hp, of_decide_eq_true hk⟩)
  unfold dput
  rw [this]
  rfl
theorem dget_app {k d : D} {kvs : List (D × D)} (h : dget kvs k = none) : dget (kvs ++ [(k, d)]) k = some d := by
  induction kvs with
  | nil => simp
  | cons p r ih =>
    obtain ⟨a, b⟩ := p
    rw [dget_cons] at h
    rw [List.cons_append, dget_cons]
    split at h
    · cases h
    · rename_i e
      rw [if_neg e]
      exact ih h
theorem Kn.get {t : Option Int} {kvs : List (D × D)} (h : Kn t kvs) {qs : Bx} {d : D} (e : dget kvs (sD qs) = some d) : d = bstD (best t qs) := by
  obtain ⟨qs', _, e2⟩ := h.all _ (dget_mem e)
  have e3 := Prod.mk.inj e2
  rw [sD_inj e3.1]
  exact e3.2
theorem Kn.put {t : Option Int} {kvs : List (D × D)} (h : Kn t kvs) {qs : Bx} (g : GB t qs) (e : dget kvs (sD qs) = none) : Kn t (kvs ++ [(sD qs, bstD (best t qs))]) where
  all := fun p hp => by
    rcases List.mem_append.mp hp with hp | hp
    · exact h.all p hp
    · exact ⟨qs, g, by simpa using hp⟩
  nd := by
    rw [List.map_append, List.nodup_append]
    refine ⟨h.nd, by simp, fun a ha b hb => ?_⟩
    simp only [List.map_cons, List.map_nil, List.mem_singleton] at hb
    subst hb
    exact fun z => dget_none e (by rw [← z]; exact ha)
/-! how many boxes there are -/
theorem nodup_lt : ∀ (n : Nat) {l : List Nat}, l.Nodup → (∀ x ∈ l, x < n) → l.length ≤ n
  | 0, l, _, h => by
    cases l with
    | nil => exact Nat.le_refl _
    | cons a r => exact absurd (h a (List.mem_cons_self ..)) (Nat.not_lt_zero _)
  | n + 1, l, nd, h => by
    by_cases c : n ∈ l
    · have h1 := nodup_lt n (l := l.erase n) (nd.erase n) fun x hx => by
        have h2 := h x (List.mem_of_mem_erase hx)
        have h3 : x ≠ n := fun z => by
          subst z
          exact (List.Nodup.not_mem_erase nd) hx
        omega
      rw [List.length_erase_of_mem c] at h1
      omega
    · have h1 := nodup_lt n (l := l) nd fun x hx => by
        have h2 := h x hx
        have h3 : x ≠ n := fun z => by subst z; exact c hx
        omega
      omega
def cod : Bx → Nat
  | [] => 0
  | q :: r => 1 + (q.1.toNat * 8 + q.2.toNat) + 65 * cod r
theorem cod_lt : ∀ {qs : Bx}, (∀ q ∈ qs, 0 ≤ q.1 ∧ q.1 ≤ q.2 ∧ q.2 ≤ 7) → cod qs < 65 ^ qs.length
  | [], _ => by decide
  | q :: r, h => by
    have h1 := cod_lt (qs := r) fun x hx => h x (List.mem_cons_of_mem _ hx)
    have h2 := h q (List.mem_cons_self ..)
    have e : cod (q :: r) = 1 + (q.1.toNat * 8 + q.2.toNat) + 65 * cod r := rfl
    rw [e, List.length_cons, Nat.pow_succ]
    omega
theorem cod_inj : ∀ {a b : Bx}, (∀ q ∈ a, 0 ≤ q.1 ∧ q.1 ≤ q.2 ∧ q.2 ≤ 7) → (∀ q ∈ b, 0 ≤ q.1 ∧ q.1 ≤ q.2 ∧ q.2 ≤ 7) → cod a = cod b → a = b
  | [], [], _, _, _ => rfl
  | [], q :: r, _, _, e => by
    have : cod (q :: r) = 1 + (q.1.toNat * 8 + q.2.toNat) + 65 * cod r := rfl
    have e0 : cod [] = 0 := rfl
    omega
  | q :: r, [], _, _, e => by
    have : cod (q :: r) = 1 + (q.1.toNat * 8 + q.2.toNat) + 65 * cod r := rfl
    have e0 : cod [] = 0 := rfl
    omega
  | q :: r, q' :: r', h, h', e => by
    have h1 := h q (List.mem_cons_self ..)
    have h2 := h' q' (List.mem_cons_self ..)
    have e1 : cod (q :: r) = 1 + (q.1.toNat * 8 + q.2.toNat) + 65 * cod r := rfl
    have e2 : cod (q' :: r') = 1 + (q'.1.toNat * 8 + q'.2.toNat) + 65 * cod r' := rfl
    have e3 : cod r = cod r' := by omega
    have e4 := cod_inj (fun x hx => h x (List.mem_cons_of_mem _ hx)) (fun x hx => h' x (List.mem_cons_of_mem _ hx)) e3
    have e5 : q = q' := Prod.ext (by omega) (by omega)
    rw [e4, e5]
theorem boxes_few {l : List Bx} (nd : l.Nodup) (h : ∀ qs ∈ l, BW qs) : l.length ≤ 274625 := by
  have h1 : (l.map cod).Nodup := by
    rw [List.Nodup, List.pairwise_map]
    exact List.Pairwise.imp_of_mem (fun {a b} ha hb hne e => hne (cod_inj (h a ha).2 (h b hb).2 e)) nd
  have h2 := nodup_lt 274625 h1 fun x hx => by
    obtain ⟨qs, hq, rfl⟩ := List.mem_map.mp hx
    have h3 := cod_lt (h qs hq).2
    have h4 := (h qs hq).1
    have h5 : 65 ^ qs.length ≤ 65 ^ 3 := Nat.pow_le_pow_right (by decide) h4
    have h6 : 65 ^ 3 = 274625 := by decide
    omega
  rw [List.length_map] at h2
  exact h2
theorem keys_boxes {L : List D} (nd : L.Nodup) (h : ∀ k ∈ L, ∃ qs, BW qs ∧ k = sD qs) : L.length ≤ 274625 := by
  have : ∃ l : List Bx, L = l.map sD ∧ ∀ qs ∈ l, BW qs := by
    clear nd
    induction L with
    | nil => exact ⟨[], rfl, fun _ h => by cases h⟩
    | cons k L ih =>
      obtain ⟨l, e, hl⟩ := ih fun k' hk => h k' (List.mem_cons_of_mem _ hk)
      obtain ⟨qs, hq, ek⟩ := h k (List.mem_cons_self ..)
      refine ⟨qs :: l, by rw [e, ek]; rfl, fun x hx => ?_⟩
      rcases List.mem_cons.mp hx with rfl | hx
      · exact hq
      · exact hl x hx
  obtain ⟨l, e, hl⟩ := this
  subst e
  rw [List.length_map]
  refine boxes_few ?_ hl
  rw [List.Nodup, List.pairwise_map] at nd
  exact nd.imp fun {a b} hne e => hne (by rw [e])
theorem Kn.few {t : Option Int} {kvs : List (D × D)} (h : Kn t kvs) : kvs.length < LIM := by
  have h1 := keys_boxes h.nd fun k hk => by
    obtain ⟨p, hp, rfl⟩ := List.mem_map.mp hk
    obtain ⟨qs, g, e⟩ := h.all p hp
    exact ⟨qs, g.bw, by rw [e]⟩
  rw [List.length_map] at h1
  have : LIM = 16777216 := rfl
  omega
end OI.Y

/-! SE2: Search.best, worst, plan, __init__; least: what they give. -/
namespace OI.Y
open PySem (Str)
structure SLook (P : Prog) : Prop where
  nar : look P "narrowed" = some F_narrowed
  isb : look P "is_box" = some F_is_box
  tig : look P "tightened" = some F_tightened
  tgt : look P "tight" = some F_tight
  loo : look P "looks_in" = some F_looks_in
  ans : look P "answered" = some F_answered
  ini : look P "Search.__init__" = some F_Search_init
  bst : look P "Search.best" = some F_Search_best
  wst : look P "Search.worst" = some F_Search_worst
section
variable {P : Prog} {W n : Nat} {s : Store} {t : Option Int} {qs : Bx} {l : Int × Int} {j v : Nat} {kvs : List (D × D)}
@[scoped simp] theorem setItem_odT (kvs : List (D × D)) (k d : D) : setItem (.od true kvs) k d = if keyOk true k ∧ kvs.length < LIM then some (.od true (dput kvs k d)) else none := Eq.trans rfl rfl
theorem tig_of {ps ys : Bx} (h : narB ps t = some ys) : tigD ps t = sD ys := by
  unfold tigD
  rw [h]
  rfl
@[scoped simp] theorem bw_sD (p : Pl) (s : Store) : bw (.val (sD qs)) p s = (.val (sD qs), none) := rfl
@[scoped simp] theorem bw_tD (p : Pl) (s : Store) : bw (.val (tD t)) p s = (.val (tD t), none) := by cases t <;> rfl
@[scoped simp] theorem ix_sD0 : index (.val (sD qs)) (.val (.int 0)) = some (.tup (iD (lows qs))) := rfl
@[scoped simp] theorem ix_sD1 : index (.val (sD qs)) (.val (.int 1)) = some (.tup (iD (highs qs))) := rfl
@[scoped simp] theorem bw_bst (r : Int × Option (Int × Int)) (p : Pl) (s : Store) : bw (.val (bstD r)) p s = (.val (bstD r), none) := rfl
@[scoped simp] theorem ix_bst0 (r : Int × Option (Int × Int)) : index (.val (bstD r)) (.val (.int 0)) = some (.int r.1) := rfl
@[scoped simp] theorem ix_bst1 (r : Int × Option (Int × Int)) : index (.val (bstD r)) (.val (.int 1)) = some (lkD r.2) := rfl
theorem worst_ok (L : SLook P) (g : GB t qs) (hl : l ∈ looksFrom 0 qs) {s1 s2 : Store} {v1 : Nat} {kvs1 : List (D × D)} (h0 : s[j]? = some ⟨SrO t kvs, v⟩) (h1 : s1[j]? = some ⟨SrO t kvs1, v1⟩)
    (hy : run P W (n + 3) "Search.best" [.loc j, sD (yB t qs l)] s = .ok (.val (bstD (best t (yB t qs l)))) s1) (hn : run P W (n + 3) "Search.best" [.loc j, sD (nB t qs l)] s1 = .ok (.val (bstD (best t (nB t qs l)))) s2)
    (hgc : ∀ m, gc s (.val m) s2 = s2) :
    run P W (n + 4) "Search.worst" [.loc j, sD qs, pD l] s = .ok (.val (.int (max (dep t (yB t qs l)) (dep t (nB t qs l))))) s2 := by
  rw [run_eq L.wst rfl (by decide)]
  obtain ⟨k, q, S⟩ := look_split g hl
  have ha := answered_ok (W := W) (n := n) (s := s) L.nar L.tig L.ans t g.bw.1 S.at' l.2
  rw [tig_of S.ny, tig_of S.nn, ← S.a] at ha
  simp only [F_Search_worst, begun]
  simp [h0, h1, SrO, ha, hy, hn, hgc]
  rfl
theorem best_loop {R : Runs} (hw : ∀ l ∈ looksFrom 0 qs, ∀ (s : Store) (kvs : List (D × D)) (v : Nat), s[j]? = some ⟨SrO t kvs, v⟩ → Kn t kvs → ∃ kvs' v', R "Search.worst" [.loc j, sD qs, pD l] s = .ok (.val (.int (max (dep t (yB t qs l)) (dep t (nB t qs l))))) (s.set j ⟨SrO t kvs', v'⟩) ∧ Kn t kvs') :
    ∀ (L : List (Int × Int)), (∀ l ∈ L, l ∈ looksFrom 0 qs) → ∀ (found : Int × Option (Int × Int)) (s0 s : Store) (kvs : List (D × D)) (v : Nat) (o3 o4 : Option M), s[j]? = some ⟨SrO t kvs, v⟩ → Kn t kvs → ∃ kvs' v' o3' o4',
    forL [] s0 (.one 3) (execs R W (.cons (.asg (.one 4) (.bin .add (.cst (.int 1)) (.meth (.var 0) "Search" "worst" (.cons (.var 1) (.cons (.var 3) .nil)))))
  (.cons (.ifs (.either (.isN false (.idx (.var 2) (.cst (.int 1)))) (.cmp .lt (.var 4) (.idx (.var 2) (.cst (.int 0))))) (.cons (.asg (.one 2) (.tup (.cons (.var 4) (.cons (.var 3) .nil))))
  .nil) .nil)
  .nil))) (L.map pD) [some (.val (.loc j)), some (.val (sD qs)), some (.val (bstD found)), o3, o4] s =
      .ok .nx [some (.val (.loc j)), some (.val (sD qs)), some (.val (bstD (L.foldl (stepB (dl t qs)) found))), o3', o4'] (s.set j ⟨SrO t kvs', v'⟩) ∧ Kn t kvs'
  | [], _, found, s0, s, kvs, v, o3, o4, h0, K => ⟨kvs, v, o3, o4, by simp [set_sameB h0], K⟩
  | l :: L, hL, found, s0, s, kvs, v, o3, o4, h0, K => by
    obtain ⟨kvs1, v1, e1, K1⟩ := hw l (hL l (List.mem_cons_self ..)) s kvs v h0 K
    have hj : j < s.length := (List.getElem?_eq_some_iff.mp h0).1
    have h1 : (s.set j ⟨SrO t kvs1, v1⟩)[j]? = some ⟨SrO t kvs1, v1⟩ := List.getElem?_set_self hj
    obtain ⟨kvs2, v2, o3', o4', e2, K2⟩ := best_loop hw L (fun l' h => hL l' (List.mem_cons_of_mem _ h)) (stepB (dl t qs) found l) s0 (s.set j ⟨SrO t kvs1, v1⟩) kvs1 v1 (some (.val (pD l))) (some (.val (.int (dl t qs l)))) h1 K1
    refine ⟨kvs2, v2, o3', o4', ?_, K2⟩
    rw [List.set_set] at e2
    rw [List.foldl_cons, ← e2, List.map_cons, forL_cons]
    have hd : (1 : Int) + max (dep t (yB t qs l)) (dep t (nB t qs l)) = dl t qs l := rfl
    obtain ⟨f1, f2⟩ := found
    cases f2 with
    | none =>
      have es : stepB (dl t qs) (f1, none) l = (dl t qs l, some l) := by
        unfold stepB
        rw [if_pos (.inl rfl)]
      rw [es]
      simp [h0, SrO, e1, hd, bstD, lkD]
    | some l0 =>
      by_cases c : dl t qs l < f1
      · have es : stepB (dl t qs) (f1, some l0) l = (dl t qs l, some l) := by
          unfold stepB
          rw [if_pos (.inr c)]
        rw [es]
        simp only [pD] at e1
        simp [h0, SrO, e1, hd, bstD, lkD, c, pD]
      · have es : stepB (dl t qs) (f1, some l0) l = (f1, some l0) := by
          unfold stepB
          rw [if_neg]
          rintro (z | z)
          · cases z
          · exact c z
        rw [es]
        simp only [pD] at e1
        simp [h0, SrO, e1, hd, bstD, lkD, c, pD]
theorem Kn.put_all (K : Kn t kvs) (g : GB t qs) : Kn t (dput kvs (sD qs) (bstD (best t qs))) ∧ dget (dput kvs (sD qs) (bstD (best t qs))) (sD qs) = some (bstD (best t qs)) := by
  cases hd : dget kvs (sD qs) with
  | none =>
    rw [dput_new hd]
    exact ⟨K.put g hd, dget_app hd⟩
  | some d =>
    have e := K.get hd
    subst e
    have he : dput kvs (sD qs) (bstD (best t qs)) = kvs := by
      unfold dput
      rw [if_pos (List.any_eq_true.mpr ⟨_, dget_mem hd, by simp⟩)]
      have : ∀ l : List (D × D), (∀ p ∈ l, ∃ qs, GB t qs ∧ p = (sD qs, bstD (best t qs))) → l.map (fun p => if p.1 = sD qs then (p.1, bstD (best t qs)) else p) = l := by
        intro l
        induction l with
        | nil => exact fun _ => rfl
        | cons p l ih =>
          intro h
          rw [List.map_cons, ih fun q hq => h q (List.mem_cons_of_mem _ hq)]
          obtain ⟨qs', _, e⟩ := h p (List.mem_cons_self ..)
          by_cases c : p.1 = sD qs
          · rw [if_pos c]
            rw [e] at c ⊢
            have := sD_inj c
            subst this
            rfl
          · rw [if_neg c]
      exact this kvs K.all
    rw [he]
    exact ⟨K, hd⟩
theorem gc_set {s : Store} {j : Nat} {e : Ent} {m : M} : gc s m (s.set j e) = s.set j e := gc_len (by rw [List.length_set]; exact Nat.le_refl _)
theorem best_ok (L : SLook P) : ∀ (w : Nat) {qs : Bx} {s : Store} {kvs : List (D × D)} {v : Nat}, GB t qs → wid qs ≤ w → s[j]? = some ⟨SrO t kvs, v⟩ → Kn t kvs → ∀ m, 2 * w + 6 ≤ m → ∃ kvs' v',
    run P W m "Search.best" [.loc j, sD qs] s = .ok (.val (bstD (best t qs))) (s.set j ⟨SrO t kvs', v'⟩) ∧ Kn t kvs'
  | w, qs, s, kvs, v, g, hw, h0, K, m, hm => by
    obtain ⟨m, rfl⟩ : ∃ k, m = k + 1 := ⟨m - 1, by omega⟩
    have hj : j < s.length := (List.getElem?_eq_some_iff.mp h0).1
    rw [run_eq L.bst rfl (by decide)]
    cases hd : dget kvs (sD qs) with
    | some d =>
      have := K.get hd
      subst this
      refine ⟨kvs, v, ?_, K⟩
      simp [F_Search_best, begun, h0, SrO, hd, gc_self]
      rw [← SrO, set_sameB h0]
    | none =>
      have hws : ∀ l ∈ looksFrom 0 qs, ∀ (s : Store) (kvs : List (D × D)) (v : Nat), s[j]? = some ⟨SrO t kvs, v⟩ → Kn t kvs → ∃ kvs' v', run P W m "Search.worst" [.loc j, sD qs, pD l] s = .ok (.val (.int (max (dep t (yB t qs l)) (dep t (nB t qs l))))) (s.set j ⟨SrO t kvs', v'⟩) ∧ Kn t kvs' := fun l hl s kvs v h0 K => by
        have hj : j < s.length := (List.getElem?_eq_some_iff.mp h0).1
        obtain ⟨k, q, S⟩ := look_split g hl
        have w1 := S.wy
        have w2 := S.wn
        cases w with
        | zero => omega
        | succ w =>
          obtain ⟨m', rfl⟩ : ∃ k, m = k + 4 := ⟨m - 4, by omega⟩
          obtain ⟨kvs1, v1, e1, K1⟩ := best_ok L w S.gy (by omega) h0 K (m' + 3) (by omega)
          have h1 : (s.set j ⟨SrO t kvs1, v1⟩)[j]? = some ⟨SrO t kvs1, v1⟩ := List.getElem?_set_self hj
          obtain ⟨kvs2, v2, e2, K2⟩ := best_ok L w S.gn (by omega) h1 K1 (m' + 3) (by omega)
          rw [List.set_set] at e2
          exact ⟨kvs2, v2, worst_ok L g hl h0 h1 e1 e2 fun m => gc_set, K2⟩
      obtain ⟨m', rfl⟩ : ∃ k, m = k + 1 := ⟨m - 1, by omega⟩
      have hlo := looks_ok (W := W) (n := m') (s := s) L.loo g.bw
      obtain ⟨kvs1, v1, o3, o4, e1, K1⟩ := best_loop (W := W) hws (looksFrom 0 qs) (fun l h => h) (0, none) s s kvs v none none h0 K
      have h1 : (s.set j ⟨SrO t kvs1, v1⟩)[j]? = some ⟨SrO t kvs1, v1⟩ := List.getElem?_set_self hj
      rw [← best_eq g] at e1
      have hb : (bstD ((0 : Int), none)) = .tup [.int 0, .non] := rfl
      rw [hb] at e1
      have hfew := K1.few
      obtain ⟨K2, hg⟩ := K1.put_all g
      refine ⟨_, v1 + 1, ?_, K2⟩
      simp [F_Search_best, begun, h0, SrO, hd, hlo]
      simp only [SrO] at e1
      rw [e1]
      simp [hj, hfew, hg]
      exact gc_set
end
end OI.Y

/-! SE3: plans; Search.plan, Search.__init__, least, walked. -/
namespace OI.Y
open PySem (Str PyData)
def F_walked : Fn := ⟨2, 7, (.cons (.asg (.one 2) (.lst .nil))
  (.cons (.whil (.cmp .ne (.var 0) (.tup .nil)) (.cons (.asg (.many [3, 4, 5, 6]) (.var 0))
  (.cons (.mut1 "append" (.var 2) (.tup (.cons (.var 3) (.cons (.var 4) (.cons (.cmp .ge (.idx (.var 1) (.var 3)) (.var 4)) .nil)))))
  (.cons (.asg (.one 0) (.ife (.cmp .ge (.idx (.var 1) (.var 3)) (.var 4)) (.var 5) (.var 6)))
  .nil))))
  (.cons (.ret (.var 2))
  .nil)))⟩
inductive PlanT where
  | leaf | node (k m : Int) (yes no : PlanT)
def PlanT.d : PlanT → D
  | .leaf => .tup []
  | .node k m y n => .tup [.int k, .int m, y.d, n.d]
def PlanT.ok (w : Int) : PlanT → Prop
  | .leaf => True
  | .node k _ y n => 0 ≤ k ∧ k < w ∧ y.ok w ∧ n.ok w
def PlanT.deep : PlanT → Nat
  | .leaf => 0
  | .node _ _ y n => max y.deep n.deep + 1
def nthW (w : List Int) (k : Int) : Int := w.getD k.toNat 0
/-- the answers, one behind the other -/
def walk (w : List Int) : PlanT → List D
  | .leaf => []
  | .node k m y n => .tup [.int k, .int m, .bl (decide (m ≤ nthW w k))] :: (if m ≤ nthW w k then walk w y else walk w n)
theorem walk_len (w : List Int) : ∀ p : PlanT, (walk w p).length ≤ p.deep
  | .leaf => Nat.le_refl _
  | .node k m y n => by
    have h1 := walk_len w y
    have h2 := walk_len w n
    unfold walk PlanT.deep
    rw [List.length_cons]
    split <;> omega
theorem lay_plan : ∀ p : PlanT, p.d.lay = true
  | .leaf => rfl
  | .node k m y n => by
    have h1 : (toPy y.d).canLay0 = true := lay_plan y
    have h2 : (toPy n.d).canLay0 = true := lay_plan n
    show ((PyData.int k).canLay0 && ((PyData.int m).canLay0 && ((toPy y.d).canLay0 && ((toPy n.d).canLay0 && true)))) = true
    rw [h1, h2]
    rfl
theorem at_world {w : List Int} {k : Int} (h0 : 0 ≤ k) (h1 : k < w.length) : L2.atI (w.map D.int) k = some (.int (nthW w k)) := by
  have hk : k.toNat < w.length := by omega
  rw [atI_at (k := k.toNat) (by omega) (by rw [List.length_map]; exact hk), List.getElem?_map, List.getElem?_eq_getElem hk]
  unfold nthW
  rw [List.getD_eq_getElem?_getD, List.getElem?_eq_getElem hk]
  rfl
section
variable {P : Prog} {W n : Nat} {s : Store} {t : Option Int} {qs : Bx} {l : Int × Int} {j v : Nat} {kvs : List (D × D)}
theorem walked_loop {w : List Int} (R : Runs) : ∀ (p : PlanT) (acc : List D) (o3 o4 o5 o6 : Option M) (f : Nat), p.ok w.length → p.deep < f → acc.length + p.deep ≤ 1000 → ∃ o3' o4' o5' o6', whileL (testS (ev R (.cmp .ne (.var 0) (.tup .nil)))) (execs R W (.cons (.asg (.many [3, 4, 5, 6]) (.var 0))
  (.cons (.mut1 "append" (.var 2) (.tup (.cons (.var 3) (.cons (.var 4) (.cons (.cmp .ge (.idx (.var 1) (.var 3)) (.var 4)) .nil)))))
  (.cons (.asg (.one 0) (.ife (.cmp .ge (.idx (.var 1) (.var 3)) (.var 4)) (.var 5) (.var 6)))
  .nil)))) f [some (.val p.d), some (.val (.tup (w.map .int))), some (.ol acc), o3, o4, o5, o6] s = .ok .nx [some (.val PlanT.leaf.d), some (.val (.tup (w.map .int))), some (.ol (acc ++ walk w p)), o3', o4', o5', o6'] s
  | .leaf, acc, o3, o4, o5, o6, 0, _, h, _ => absurd h (Nat.not_lt_zero _)
  | .node _ _ _ _, acc, o3, o4, o5, o6, 0, _, h, _ => absurd h (Nat.not_lt_zero _)
  | .leaf, acc, o3, o4, o5, o6, f + 1, ho, hd, ha => by
    refine ⟨o3, o4, o5, o6, ?_⟩
    rw [whileL_succ]
    simp [PlanT.d, ne_T0 lay_nil, walk]
  | .node k m y z, acc, o3, o4, o5, o6, f + 1, ho, hd, ha => by
    have hl : (D.tup [.int k, .int m, y.d, z.d]).lay = true := lay_plan (.node k m y z)
    obtain ⟨k0, k1, oy, oz⟩ := ho
    have hdy : (PlanT.node k m y z).deep = max y.deep z.deep + 1 := rfl
    have ha2 : acc.length < LIM := by
      have : LIM = 16777216 := rfl
      omega
    by_cases c : m ≤ nthW w k
    · obtain ⟨a3, a4, a5, a6, h⟩ := walked_loop R y (acc ++ [.tup [.int k, .int m, .bl true]]) (some (.val (.int k))) (some (.val (.int m))) (some (.val y.d)) (some (.val z.d)) f oy (by omega) (by rw [List.length_append, List.length_singleton]; omega)
      refine ⟨a3, a4, a5, a6, ?_⟩
      rw [whileL_succ]
      simp [PlanT.d, ne_T0 hl, at_world k0 k1, ha2, c, walk] at h ⊢
      exact h
    · obtain ⟨a3, a4, a5, a6, h⟩ := walked_loop R z (acc ++ [.tup [.int k, .int m, .bl false]]) (some (.val (.int k))) (some (.val (.int m))) (some (.val y.d)) (some (.val z.d)) f oz (by omega) (by rw [List.length_append, List.length_singleton]; omega)
      refine ⟨a3, a4, a5, a6, ?_⟩
      rw [whileL_succ]
      simp [PlanT.d, ne_T0 hl, at_world k0 k1, ha2, c, walk] at h ⊢
      exact h
theorem walked_ok (hl : look P "walked" = some F_walked) {w : List Int} {p : PlanT} (h1 : p.ok w.length) (h2 : p.deep ≤ 100) (hW : 1000 ≤ W) : run P W (n + 1) "walked" [p.d, .tup (w.map .int)] s = .ok (.ol (walk w p)) s := by
  rw [run_eq hl rfl (by decide)]
  obtain ⟨a, b, c, d, h⟩ := walked_loop (W := W) (s := s) (w := w) (run P W n) p [] none none none none W h1 (by omega) (by simp; omega)
  simp [F_walked, begun] at h ⊢
  rw [h]
  simp [gc_self]
/-- the plan of the least depth -/
def planF (t : Option Int) : Nat → Bx → PlanT
  | 0, _ => .leaf
  | n + 1, qs => match (best t qs).2 with
    | none => .leaf
    | some l => .node l.1 l.2 (planF t n (yB t qs l)) (planF t n (nB t qs l))
def planB (t : Option Int) (qs : Bx) : PlanT := planF t (wid qs) qs
theorem best_some (g : GB t qs) (h : (best t qs).2 = some l) : l ∈ looksFrom 0 qs ∧ dep t qs = dl t qs l := by
  by_cases c : looksFrom 0 qs = []
  · rw [best_nil g c] at h
    cases h
  · obtain ⟨l', hl, e1, e2⟩ := dep_look g c
    rw [e2] at h
    cases h
    exact ⟨hl, e1⟩
theorem best_none (g : GB t qs) (h : (best t qs).2 = none) : looksFrom 0 qs = [] := by
  by_cases c : looksFrom 0 qs = []
  · exact c
  · obtain ⟨l', hl, e1, e2⟩ := dep_look g c
    rw [e2] at h
    cases h
theorem planF_same : ∀ {n m : Nat} {qs : Bx}, GB t qs → wid qs ≤ n → wid qs ≤ m → planF t n qs = planF t m qs
  | 0, 0, qs, g, h1, h2 => rfl
  | 0, m + 1, qs, g, h1, h2 => by
    unfold planF
    rw [best_nil g (wid_looks g.ok (by omega))]
  | n + 1, 0, qs, g, h1, h2 => by
    unfold planF
    rw [best_nil g (wid_looks g.ok (by omega))]
  | n + 1, m + 1, qs, g, h1, h2 => by
    unfold planF
    cases e : (best t qs).2 with
    | none => rfl
    | some l =>
      obtain ⟨hl, _⟩ := best_some g e
      obtain ⟨k, q, s⟩ := look_split g hl
      have := s.wy
      have := s.wn
      show PlanT.node l.1 l.2 _ _ = PlanT.node l.1 l.2 _ _
      rw [planF_same (n := n) (m := m) s.gy (by omega) (by omega), planF_same (n := n) (m := m) s.gn (by omega) (by omega)]
theorem planB_none (g : GB t qs) (h : (best t qs).2 = none) : planB t qs = .leaf := by
  have e : planB t qs = planF t (wid qs + 1) qs := planF_same g (Nat.le_refl _) (by omega)
  rw [e]
  unfold planF
  rw [h]
theorem planB_some (g : GB t qs) (h : (best t qs).2 = some l) : planB t qs = .node l.1 l.2 (planB t (yB t qs l)) (planB t (nB t qs l)) := by
  have e : planB t qs = planF t (wid qs + 1) qs := planF_same g (Nat.le_refl _) (by omega)
  obtain ⟨hl, _⟩ := best_some g h
  obtain ⟨k, q, s⟩ := look_split g hl
  have := s.wy
  have := s.wn
  rw [e]
  unfold planF
  rw [h]
  show PlanT.node l.1 l.2 _ _ = _
  unfold planB
  rw [planF_same (n := wid qs) (m := wid (yB t qs l)) s.gy (by omega) (by omega), planF_same (n := wid qs) (m := wid (nB t qs l)) s.gn (by omega) (by omega)]
theorem wid_bw : ∀ {qs : Bx}, (∀ q ∈ qs, 0 ≤ q.1 ∧ q.1 ≤ q.2 ∧ q.2 ≤ 7) → wid qs ≤ 7 * qs.length
  | [], _ => Nat.zero_le _
  | q :: r, h => by
    have h1 := wid_bw (qs := r) fun x hx => h x (List.mem_cons_of_mem _ hx)
    have h2 := h q (List.mem_cons_self ..)
    unfold wid at h1 ⊢
    simp only [List.map_cons, List.sum_cons, List.length_cons]
    omega
theorem GB.wid (g : GB t qs) : wid qs ≤ 21 := by
  have h1 := wid_bw g.bw.2
  have h2 := g.bw.1
  omega
@[scoped simp] theorem pD_non (l : Int × Int) : (pD l = D.non) = False := by unfold pD; simp
@[scoped simp] theorem bw_pD (l : Int × Int) (p : Pl) (s : Store) : bw (.val (pD l)) p s = (.val (pD l), none) := rfl
theorem bin_look (l : Int × Int) (a b : D) : bin .add (.val (pD l)) (.val (.tup [a, b])) = some (.val (.tup [.int l.1, .int l.2, a, b])) := bin_addT (by show 2 + 2 ≤ 16777216; omega)
theorem plan_ok (L : SLook P) (hp : look P "Search.plan" = some F_Search_plan) : ∀ (w : Nat) {qs : Bx} {s : Store} {kvs : List (D × D)} {v : Nat}, GB t qs → wid qs ≤ w → s[j]? = some ⟨SrO t kvs, v⟩ → Kn t kvs → ∀ m, 2 * w + 8 ≤ m → ∃ kvs' v',
    run P W m "Search.plan" [.loc j, sD qs] s = .ok (.val (planB t qs).d) (s.set j ⟨SrO t kvs', v'⟩) ∧ Kn t kvs'
  | w, qs, s, kvs, v, g, hw, h0, K, m, hm => by
    obtain ⟨m, rfl⟩ : ∃ k, m = k + 4 := ⟨m - 4, by omega⟩
    have hj : j < s.length := (List.getElem?_eq_some_iff.mp h0).1
    rw [run_eq hp rfl (by decide)]
    obtain ⟨kvs1, v1, e1, K1⟩ := best_ok (W := W) L w g hw h0 K (m + 3) (by omega)
    have h1 : (s.set j ⟨SrO t kvs1, v1⟩)[j]? = some ⟨SrO t kvs1, v1⟩ := List.getElem?_set_self hj
    cases hb : (best t qs).2 with
    | none =>
      refine ⟨kvs1, v1, ?_, K1⟩
      rw [planB_none g hb]
      simp [F_Search_plan, begun, h0, SrO]
      simp only [SrO] at e1
      simp [e1, hb, lkD, gc_set, PlanT.d]
    | some l =>
      obtain ⟨hl, _⟩ := best_some g hb
      obtain ⟨k, q, S⟩ := look_split g hl
      have w1 := S.wy
      have w2 := S.wn
      cases w with
      | zero => omega
      | succ w =>
        obtain ⟨kvs2, v2, e2, K2⟩ := plan_ok L hp w S.gy (by omega) h1 K1 (m + 3) (by omega)
        rw [List.set_set] at e2
        have h2 : (s.set j ⟨SrO t kvs2, v2⟩)[j]? = some ⟨SrO t kvs2, v2⟩ := List.getElem?_set_self hj
        obtain ⟨kvs3, v3, e3, K3⟩ := plan_ok L hp w S.gn (by omega) h2 K2 (m + 3) (by omega)
        rw [List.set_set] at e3
        refine ⟨kvs3, v3, ?_, K3⟩
        have ha := answered_ok (W := W) (n := m) (s := s.set j ⟨SrO t kvs1, v1⟩) L.nar L.tig L.ans t g.bw.1 S.at' l.2
        rw [tig_of S.ny, tig_of S.nn, ← S.a] at ha
        have hlk : lkD (some l) = pD l := rfl
        have hpl : pD (l.1, l.2) = pD l := rfl
        rw [hpl] at ha
        rw [planB_some g hb]
        simp [F_Search_plan, begun, h0, SrO]
        simp only [SrO] at e1 e2 e3 ha
        simp [e1, hb, hlk, hj, ha, e2, e3, bin_look, PlanT.d, gc_set]
theorem set_last (s : Store) (a b : Ent) : (s ++ [a]).set s.length b = s ++ [b] := by
  rw [List.set_append_right _ _ (Nat.le_refl _)]
  simp
theorem at_last (s : Store) (a : Ent) : (s ++ [a])[s.length]? = some a := by
  rw [List.getElem?_append_right (Nat.le_refl _)]
  simp
theorem gc_last {s : Store} {a : Ent} {m : M} (h : m.locsLt s.length = true) : gc s m (s ++ [a]) = s := by
  unfold gc
  rw [if_pos ⟨by simp, h⟩]
theorem init_ok (L : SLook P) : run P W (n + 1) "Search.__init__" [.loc s.length, tD t] (s ++ [⟨.ins "Search" [], 0⟩]) = .ok (.val .non) (s ++ [⟨SrO t [], 2⟩]) := by
  rw [run_eq L.ini rfl (by decide)]
  have h0 := at_last s ⟨.ins "Search" [], 0⟩
  have hg : ∀ m, gc (s ++ [⟨SObj.ins "Search" [], 0⟩]) m (s ++ [⟨SrO t [], 2⟩]) = s ++ [⟨SrO t [], 2⟩] := fun m => gc_len (by simp)
  have hd : dmerge [] [] = [] := rfl
  simp only [SrO] at hg
  have hg' := hg (.val .non)
  cases t <;> simp [F_Search_init, begun, h0, set_last, at_last, SrO, hd, tD] <;> exact hg'
theorem plan_locs (n : Nat) : ∀ p : PlanT, p.d.locsLt n = true
  | .leaf => rfl
  | .node k m y z => by
    have h1 := plan_locs n y
    have h2 := plan_locs n z
    simp [PlanT.d, D.locsLt, D.locsLts, h1, h2]
theorem least_ok (L : SLook P) (hp : look P "Search.plan" = some F_Search_plan) (hl : look P "least" = some F_least) {ps : Bx} (h : BV ps) (hn : 60 ≤ n) : run P W n "least" [bD ps t] s = match narB ps t with
    | none => .err "NoWorld" s
    | some qs => .ok (.val (.tup [.int (dep t qs), (planB t qs).d])) s := by
  obtain ⟨n, rfl⟩ : ∃ k, n = k + 4 := ⟨n - 4, by omega⟩
  rw [run_eq hl rfl (by decide)]
  have ht := tight_ok (W := W) (n := n) (s := s) L.nar L.tig L.isb L.tgt t h
  cases e : narB ps t with
  | none =>
    rw [e] at ht
    simp [F_least, begun, ht, gc_self]
  | some qs =>
    rw [e] at ht
    have g := h.bw0.gb e
    have hw := g.wid
    have hi := init_ok (W := W) (n := n + 2) (s := s) (t := t) L
    obtain ⟨kvs1, v1, e1, K1⟩ := best_ok (W := W) (s := s ++ [⟨SrO t [], 2⟩]) L 21 g hw (at_last s _) (Kn.nil t) (n + 3) (by omega)
    rw [set_last] at e1
    obtain ⟨kvs2, v2, e2, K2⟩ := plan_ok (W := W) (s := s ++ [⟨SrO t kvs1, v1⟩]) L hp 21 g hw (at_last s _) K1 (n + 3) (by omega)
    rw [set_last] at e2
    have hg : gc s (.val (.tup [.int (dep t qs), (planB t qs).d])) (s ++ [⟨SrO t kvs2, v2⟩]) = s := gc_last (by simp [M.locsLt, D.locsLt, D.locsLts, plan_locs])
    have hsd : D.tup [.tup (iD (lows qs)), .tup (iD (highs qs))] = sD qs := rfl
    simp only [SrO] at e1 e2 hg hi
    simp [F_least, begun, ht, tigT, hi, at_last, hsd, e1, e2, SrO]
    exact ⟨rfl, hg⟩
end
end OI.Y

/-! SE4: how often a count is halved; the depth of boxes without a total, of two places with one. -/
namespace OI.Y
open PySem (Str PyData)
def hv (n : Nat) : Nat := if h : n ≤ 1 then 0 else 1 + hv ((n + 1) / 2)
termination_by n
decreasing_by omega
theorem hv_small {n : Nat} (h : n ≤ 1) : hv n = 0 := by
  rw [hv, dif_pos h]
theorem hv_big {n : Nat} (h : 2 ≤ n) : hv n = 1 + hv ((n + 1) / 2) := by
  rw [hv, dif_neg (by omega)]
theorem hv_mono : ∀ (b a : Nat), a ≤ b → hv a ≤ hv b := fun b => by
  induction b using Nat.strongRecOn with
  | ind b ih =>
    intro a h
    by_cases c : a ≤ 1
    · rw [hv_small c]
      exact Nat.zero_le _
    · rw [hv_big (by omega), hv_big (n := b) (by omega)]
      have := ih ((b + 1) / 2) (by omega) ((a + 1) / 2) (by omega)
      omega
theorem hv_split {a b : Nat} (ha : 1 ≤ a) (hb : 1 ≤ b) : hv (a + b) ≤ 1 + max (hv a) (hv b) := by
  rw [hv_big (by omega)]
  have : (a + b + 1) / 2 ≤ a ∨ (a + b + 1) / 2 ≤ b := by omega
  rcases this with h | h
  · have := hv_mono _ _ h
    omega
  · have := hv_mono _ _ h
    omega
theorem hv_le : ∀ n : Nat, hv n ≤ n := fun n => by
  induction n using Nat.strongRecOn with
  | ind n ih =>
    by_cases c : n ≤ 1
    · rw [hv_small c]
      exact Nat.zero_le _
    · rw [hv_big (by omega)]
      have := ih ((n + 1) / 2) (by omega)
      omega
/-! ### without a total -/
/-- the halvings of all places -/
def hs (qs : Bx) : Nat := (qs.map fun q => hv (q.2 - q.1 + 1).toNat).sum
theorem hs_set : ∀ {qs : Bx} {k : Nat} {q r : Int × Int}, qs[k]? = some q → hs (qs.set k r) + hv (q.2 - q.1 + 1).toNat = hs qs + hv (r.2 - r.1 + 1).toNat
  | [], k, q, r, e => by simp at e
  | p :: qs, 0, q, r, e => by
    simp at e
    subst e
    unfold hs
    simp only [List.set_cons_zero, List.map_cons, List.sum_cons]
    omega
  | p :: qs, k + 1, q, r, e => by
    have ih := hs_set (r := r) (show qs[k]? = some q by simpa using e)
    unfold hs at ih ⊢
    simp only [List.set_cons_succ, List.map_cons, List.sum_cons]
    omega
theorem hs_zero : ∀ {qs : Bx}, BOk qs → (lows qs = highs qs) → hs qs = 0
  | [], _, _ => rfl
  | q :: qs, ok, h => by
    have h1 : q.1 :: lows qs = q.2 :: highs qs := h
    injection h1 with h1 h2
    have ih := hs_zero ok.tail.2 h2
    unfold hs at ih ⊢
    simp only [List.map_cons, List.sum_cons]
    rw [hv_small (by omega)]
    omega
theorem hs_le {t : Option Int} (ht : t = none) : ∀ (n : Nat) {qs : Bx}, wid qs ≤ n → GB t qs → (hs qs : Int) ≤ dep t qs
  | n, qs, hn, g => by
    by_cases c : looksFrom 0 qs = []
    · rw [hs_zero g.ok ((no_looks_iff g.ok).mp c), (dep_zero g).mpr c]
      exact Int.le_refl _
    · obtain ⟨l, hl, e, _⟩ := dep_look g c
      obtain ⟨k, q, s⟩ := look_split g hl
      have w1 := s.wy
      have w2 := s.wn
      cases n with
      | zero => omega
      | succ n =>
        have h1 := hs_le ht n (show wid (yB t qs l) ≤ n by omega) s.gy
        have h2 := hs_le ht n (show wid (nB t qs l) ≤ n by omega) s.gn
        subst ht
        have ey : yB none qs l = qs.set k (l.2, q.2) := (Option.some.inj s.ny).symm
        have en : nB none qs l = qs.set k (q.1, l.2 - 1) := (Option.some.inj s.nn).symm
        have h3 := hs_set (r := (l.2, q.2)) s.at'
        have h4 := hs_set (r := (q.1, l.2 - 1)) s.at'
        rw [e]
        unfold dl
        rw [← ey] at h3
        rw [← en] at h4
        have a1 := s.lt
        have a2 := s.le
        have h5 := hv_split (a := (q.2 - l.2 + 1).toNat) (b := (l.2 - 1 - q.1 + 1).toNat) (by omega) (by omega)
        have h6 : (q.2 - l.2 + 1).toNat + (l.2 - 1 - q.1 + 1).toNat = (q.2 - q.1 + 1).toNat := by omega
        rw [h6] at h5
        dsimp only at h3 h4
        omega
theorem hs_ge {t : Option Int} (ht : t = none) : ∀ (n : Nat) {qs : Bx}, wid qs ≤ n → GB t qs → dep t qs ≤ hs qs
  | n, qs, hn, g => by
    by_cases c : looksFrom 0 qs = []
    · rw [(dep_zero g).mpr c]
      omega
    · have : ∃ (k : Nat) (q : Int × Int), qs[k]? = some q ∧ q.1 < q.2 := by
        cases e : looksFrom 0 qs with
        | nil => exact absurd e c
        | cons l L =>
          obtain ⟨k, q, s⟩ := look_split (l := l) g (by rw [e]; exact List.mem_cons_self ..)
          have a1 := s.lt
          have a2 := s.le
          exact ⟨k, q, s.at', by omega⟩
      obtain ⟨k, q, eq, hq⟩ := this
      have hl : ((k : Int), q.1 + (q.2 - q.1 + 1) / 2) ∈ looksFrom 0 qs := looks_mem.mpr ⟨k, q, eq, by omega, by omega, by omega⟩
      obtain ⟨k', q', s⟩ := look_split g hl
      have hk : k' = k := by
        have := s.a
        dsimp only at this
        omega
      subst hk
      have hq' : q' = q := by
        have := s.at'
        rw [eq] at this
        exact (Option.some.inj this).symm
      subst hq'
      have w1 := s.wy
      have w2 := s.wn
      cases n with
      | zero => omega
      | succ n =>
        have h1 := hs_ge ht n (show wid (yB t qs _) ≤ n by omega) s.gy
        have h2 := hs_ge ht n (show wid (nB t qs _) ≤ n by omega) s.gn
        have h0 := dep_le g hl
        unfold dl at h0
        subst ht
        have ey : yB none qs _ = qs.set k' (_, q'.2) := (Option.some.inj s.ny).symm
        have en : nB none qs _ = qs.set k' (q'.1, _) := (Option.some.inj s.nn).symm
        have h3 := hs_set (r := (q'.1 + (q'.2 - q'.1 + 1) / 2, q'.2)) s.at'
        have h4 := hs_set (r := (q'.1, q'.1 + (q'.2 - q'.1 + 1) / 2 - 1)) s.at'
        rw [← ey] at h3
        rw [← en] at h4
        dsimp only at h3 h4
        have b := hv_big (n := (q'.2 - q'.1 + 1).toNat) (by omega)
        have m1 := hv_mono (((q'.2 - q'.1 + 1).toNat + 1) / 2) (q'.2 - (q'.1 + (q'.2 - q'.1 + 1) / 2) + 1).toNat (by omega)
        have m2 := hv_mono (((q'.2 - q'.1 + 1).toNat + 1) / 2) (q'.1 + (q'.2 - q'.1 + 1) / 2 - 1 - q'.1 + 1).toNat (by omega)
        omega
theorem dep_none {qs : Bx} (g : GB none qs) : dep none qs = hs qs := Int.le_antisymm (hs_ge rfl _ (Nat.le_refl _) g) (hs_le rfl _ (Nat.le_refl _) g)
/-! ### two places with a total -/
def two2 (a b z : Int) : Bx := [(a, b), (z - b, z - a)]
theorem nar_yes0 {a b z m : Int} (h1 : a < m) (h2 : m ≤ b) : narB [(m, b), (z - b, z - a)] (some z) = some (two2 m b z) := by
  unfold narB lows highs two2
  simp
  omega
theorem nar_no0 {a b z m : Int} (h1 : a < m) (h2 : m ≤ b) : narB [(a, m - 1), (z - b, z - a)] (some z) = some (two2 a (m - 1) z) := by
  unfold narB lows highs two2
  simp
  omega
theorem nar_yes1 {a b z m : Int} (h1 : z - b < m) (h2 : m ≤ z - a) : narB [(a, b), (m, z - a)] (some z) = some (two2 a (z - m) z) := by
  unfold narB lows highs two2
  simp
  omega
theorem nar_no1 {a b z m : Int} (h1 : z - b < m) (h2 : m ≤ z - a) : narB [(a, b), (z - b, m - 1)] (some z) = some (two2 (z - m + 1) b z) := by
  unfold narB lows highs two2
  simp
  omega
theorem dep_two {z : Int} : ∀ (n : Nat) {a b : Int}, (b - a).toNat ≤ n → GB (some z) (two2 a b z) → dep (some z) (two2 a b z) = hv (b - a + 1).toNat
  | n, a, b, hn, g => by
    have hab : a ≤ b := g.ok (a, b) (List.mem_cons_self ..)
    by_cases c : a = b
    · subst c
      have : looksFrom 0 (two2 a a z) = [] := (no_looks_iff g.ok).mpr rfl
      rw [(dep_zero g).mpr this, hv_small (by omega)]
      rfl
    · cases n with
      | zero => omega
      | succ n =>
        have each : ∀ l ∈ looksFrom 0 (two2 a b z), ∃ m, a < m ∧ m ≤ b ∧ dl (some z) (two2 a b z) l = 1 + max (hv (b - m + 1).toNat : Int) (hv (m - a).toNat) := fun l hl => by
          obtain ⟨k, q, s⟩ := look_split g hl
          have a1 := s.lt
          have a2 := s.le
          have e0 := s.at'
          have ny := s.ny
          have nn := s.nn
          match k, e0 with
          | 0, e0 =>
            have e0 : some (a, b) = some q := e0
            cases e0
            dsimp only at a1 a2
            have ey : yB (some z) (two2 a b z) l = two2 l.2 b z := Option.some.inj (ny.symm.trans (nar_yes0 a1 a2))
            have en : nB (some z) (two2 a b z) l = two2 a (l.2 - 1) z := Option.some.inj (nn.symm.trans (nar_no0 a1 a2))
            have g1 := s.gy
            have g2 := s.gn
            rw [ey] at g1
            rw [en] at g2
            refine ⟨l.2, a1, a2, ?_⟩
            unfold dl
            rw [ey, en, dep_two n (by omega) g1, dep_two n (by omega) g2]
            have : (l.2 - 1 - a + 1).toNat = (l.2 - a).toNat := by omega
            rw [this]
          | 1, e0 =>
            have e0 : some (z - b, z - a) = some q := e0
            cases e0
            dsimp only at a1 a2
            have ey : yB (some z) (two2 a b z) l = two2 a (z - l.2) z := Option.some.inj (ny.symm.trans (nar_yes1 a1 a2))
            have en : nB (some z) (two2 a b z) l = two2 (z - l.2 + 1) b z := Option.some.inj (nn.symm.trans (nar_no1 a1 a2))
            have g1 := s.gy
            have g2 := s.gn
            rw [ey] at g1
            rw [en] at g2
            refine ⟨z - l.2 + 1, by omega, by omega, ?_⟩
            unfold dl
            rw [ey, en, dep_two n (by omega) g1, dep_two n (by omega) g2]
            have e1 : (z - l.2 - a + 1).toNat = (z - l.2 + 1 - a).toNat := by omega
            rw [e1]
            omega
          | k + 2, e0 => simp [two2] at e0
        have hne : looksFrom 0 (two2 a b z) ≠ [] := fun e => by
          have := (no_looks_iff g.ok).mp e
          have h1 : [a, z - b] = [b, z - a] := this
          injection h1 with h1 _
          exact c h1
        obtain ⟨l, hl, e, _⟩ := dep_look g hne
        obtain ⟨m, m1, m2, e2⟩ := each l hl
        have lo := hv_split (a := (b - m + 1).toNat) (b := (m - a).toNat) (by omega) (by omega)
        have hsum : (b - m + 1).toNat + (m - a).toNat = (b - a + 1).toNat := by omega
        rw [hsum] at lo
        have hl2 : ((0 : Int), a + (b - a + 1) / 2) ∈ looksFrom 0 (two2 a b z) := looks_mem.mpr ⟨0, (a, b), rfl, by omega, by dsimp only; omega, by dsimp only; omega⟩
        have up := dep_le g hl2
        have ey : yB (some z) (two2 a b z) (0, a + (b - a + 1) / 2) = two2 (a + (b - a + 1) / 2) b z := by
          obtain ⟨k, q, s⟩ := look_split g hl2
          have hk : k = 0 := by
            have := s.a
            dsimp only at this
            omega
          subst hk
          have e0 : some (a, b) = some q := s.at'
          cases e0
          exact Option.some.inj (s.ny.symm.trans (nar_yes0 s.lt s.le))
        have en : nB (some z) (two2 a b z) (0, a + (b - a + 1) / 2) = two2 a (a + (b - a + 1) / 2 - 1) z := by
          obtain ⟨k, q, s⟩ := look_split g hl2
          have hk : k = 0 := by
            have := s.a
            dsimp only at this
            omega
          subst hk
          have e0 : some (a, b) = some q := s.at'
          cases e0
          exact Option.some.inj (s.nn.symm.trans (nar_no0 s.lt s.le))
        obtain ⟨k, q, s⟩ := look_split g hl2
        have g1 := s.gy
        have g2 := s.gn
        rw [ey] at g1
        rw [en] at g2
        unfold dl at up
        rw [ey, en, dep_two n (by omega) g1, dep_two n (by omega) g2] at up
        have bg := hv_big (n := (b - a + 1).toNat) (by omega)
        have m3 := hv_mono (((b - a + 1).toNat + 1) / 2) (b - (a + (b - a + 1) / 2) + 1).toNat (by omega)
        have m4 := hv_mono (((b - a + 1).toNat + 1) / 2) (a + (b - a + 1) / 2 - 1 - a + 1).toNat (by omega)
        omega
def F_law_halved : Fn := ⟨1, 2, (.cons (.asg (.one 1) (.cst (.int 0)))
  (.cons (.whil (.cmp .gt (.var 0) (.cst (.int 1))) (.cons (.asg (.one 0) (.bin .fdiv (.bin .add (.var 0) (.cst (.int 1))) (.cst (.int 2))))
  (.cons (.asg (.one 1) (.bin .add (.var 1) (.cst (.int 1))))
  .nil)))
  (.cons (.ret (.var 1))
  .nil)))⟩
section
variable {P : Prog} {W n : Nat} {s : Store}
theorem fdiv2 (i : Int) : bin .fdiv (.val (.int i)) (.val (.int 2)) = some (.val (.int (i / 2))) := by
  unfold bin intM
  dsimp only
  rw [if_pos (by decide)]
  rfl
theorem halved_loop {R : Runs} : ∀ (f : Nat) (m : Nat) (acc : Int), hv m < f → ∃ a : Int, whileL (testS (ev R (.cmp .gt (.var 0) (.cst (.int 1))))) (execs R W (.cons (.asg (.one 0) (.bin .fdiv (.bin .add (.var 0) (.cst (.int 1))) (.cst (.int 2))))
  (.cons (.asg (.one 1) (.bin .add (.var 1) (.cst (.int 1))))
  .nil))) f [some (.val (.int (m : Int))), some (.val (.int acc))] s = .ok .nx [some (.val (.int a)), some (.val (.int (acc + hv m)))] s
  | 0, m, acc, h => absurd h (Nat.not_lt_zero _)
  | f + 1, m, acc, h => by
    by_cases c : m ≤ 1
    · refine ⟨m, ?_⟩
      rw [whileL_succ, hv_small c]
      have c' : ¬ (1 < (m : Int)) := by omega
      simp [c']
    · have b := hv_big (n := m) (by omega)
      obtain ⟨a, e⟩ := halved_loop (R := R) f ((m + 1) / 2) (acc + 1) (by omega)
      refine ⟨a, ?_⟩
      rw [whileL_succ, b]
      have c' : 1 < (m : Int) := by omega
      have e1 : (((m + 1) / 2 : Nat) : Int) = ((m : Int) + 1) / 2 := by omega
      have e2 : acc + 1 + (hv ((m + 1) / 2) : Int) = acc + ((1 + hv ((m + 1) / 2) : Nat) : Int) := by omega
      rw [e1, e2] at e
      simp [c', fdiv2]
      simp at e
      exact e
theorem halved_ok (hl : look P "_law_halved" = some F_law_halved) {m : Nat} (hW : m < W) : run P W (n + 1) "_law_halved" [.int m] s = .ok (.val (.int (hv m))) s := by
  rw [run_eq hl rfl (by decide)]
  obtain ⟨a, e⟩ := halved_loop (W := W) (s := s) (R := run P W n) W m 0 (by have := hv_le m; omega)
  simp [F_law_halved, begun]
  simp at e
  rw [e]
  simp [gc_self]
end
end OI.Y

/-! SE5: worlds gone through, parted by a plan. -/
namespace OI.Y
open PySem (Str PyData)
/-- a list of all worlds of a tight box -/
structure Wl (t : Option Int) (qs : Bx) (es : List (List Int)) : Prop where
  nd : es.Nodup
  mem : ∀ w, w ∈ es ↔ IsW qs t w
section
variable {t : Option Int} {ps qs : Bx} {es : List (List Int)} {l : Int × Int} {k : Nat} {q : Int × Int}
theorem getD_at {w : List Int} {k : Nat} {x : Int} (h : w[k]? = some x) : w.getD k 0 = x := by
  rw [List.getD_eq_getElem?_getD, h]
  rfl
theorem Wl.yes (W : Wl t qs es) (S : Split t qs l k q) : Wl t (yB t qs l) (es.filter (geP k l.2)) where
  nd := W.nd.filter _
  mem := fun w => by
    rw [List.mem_filter, W.mem, S.iy]
    unfold geP
    rw [decide_eq_true_eq]
    refine ⟨fun ⟨h, h2⟩ => ⟨h, ?_⟩, fun ⟨h, x, hx, h2⟩ => ⟨h, by rw [getD_at hx]; exact h2⟩⟩
    obtain ⟨x, hx, _⟩ := inBox_get h.1 S.at'
    rw [getD_at hx] at h2
    exact ⟨x, hx, h2⟩
theorem Wl.no (W : Wl t qs es) (S : Split t qs l k q) : Wl t (nB t qs l) (es.filter (ltP k l.2)) where
  nd := W.nd.filter _
  mem := fun w => by
    rw [List.mem_filter, W.mem, S.in']
    unfold ltP
    rw [decide_eq_true_eq]
    refine ⟨fun ⟨h, h2⟩ => ⟨h, ?_⟩, fun ⟨h, x, hx, h2⟩ => ⟨h, by rw [getD_at hx]; exact h2⟩⟩
    obtain ⟨x, hx, _⟩ := inBox_get h.1 S.at'
    rw [getD_at hx] at h2
    exact ⟨x, hx, h2⟩
theorem Wl.ne (g : GB t qs) (W : Wl t qs es) : es ≠ [] := fun z => by
  obtain ⟨w, hw⟩ := narB_ex g.ok g.ti
  have := (W.mem w).mpr hw
  rw [z] at this
  cases this
theorem only_world : ∀ {qs : Bx} {w : List Int}, lows qs = highs qs → inBox qs w → w = lows qs
  | [], [], _, _ => rfl
  | q :: qs, x :: w, h, hw => by
    have h1 : q.1 :: lows qs = q.2 :: highs qs := h
    injection h1 with h1 h2
    obtain ⟨a, b, c⟩ := hw
    have ih := only_world h2 c
    have : x = q.1 := by omega
    rw [this, ih]
    rfl
theorem Wl.one (g : GB t qs) (W : Wl t qs es) (h : looksFrom 0 qs = []) : es = [lows qs] := by
  have hl := (no_looks_iff g.ok).mp h
  have h1 : ∀ w ∈ es, w = lows qs := fun w hw => only_world hl ((W.mem w).mp hw).1
  cases es with
  | nil => exact absurd rfl (W.ne g)
  | cons a r =>
    have ha := h1 a (List.mem_cons_self ..)
    cases r with
    | nil => rw [ha]
    | cons b r =>
      have hb := h1 b (List.mem_cons_of_mem _ (List.mem_cons_self ..))
      have := W.nd
      rw [List.nodup_cons] at this
      exact absurd (by rw [ha, hb]; exact List.mem_cons_self ..) this.1
theorem upto_nodup (a b : Int) : (upto a b).Nodup := by
  unfold upto
  rw [List.Nodup, List.pairwise_map]
  exact List.nodup_range.imp fun h e => h (by omega)
theorem longer_nodup {ws : List (List Int)} {p : Int × Int} (h : ws.Nodup) : (longer ws p).Nodup := by
  induction ws with
  | nil => exact List.nodup_nil
  | cons w ws ih =>
    rw [List.nodup_cons] at h
    have e : longer (w :: ws) p = ((upto p.1 p.2).map fun m => w ++ [m]) ++ longer ws p := rfl
    rw [e, List.nodup_append]
    refine ⟨?_, ih h.2, fun a ha b hb z => ?_⟩
    · rw [List.Nodup, List.pairwise_map]
      exact (upto_nodup p.1 p.2).imp fun h e => h (by simpa using e)
    · obtain ⟨m, _, rfl⟩ := List.mem_map.mp ha
      obtain ⟨w', x, h1, _, _, e2⟩ := longer_mem.mp hb
      rw [e2] at z
      have := List.append_inj' z rfl
      exact h.1 (by rw [this.1]; exact h1)
theorem allW_nodup (ps : Bx) : (allW ps).Nodup := by
  unfold allW
  have : ∀ (ps : Bx) (ws : List (List Int)), ws.Nodup → (ps.foldl longer ws).Nodup := by
    intro ps
    induction ps with
    | nil => exact fun ws h => h
    | cons p ps ih => exact fun ws h => ih _ (longer_nodup h)
  exact this ps [[]] (by simp)
theorem Wl.of (ok : BOk ps) (h : narB ps t = some qs) : Wl t qs (wsOf ps t) := ⟨(allW_nodup ps).filter _, fun w => by rw [wsOf_mem, narB_in ok h]⟩
/-! ### by the plan -/
theorem plan_deep : ∀ (n : Nat) {qs : Bx}, wid qs ≤ n → GB t qs → ((planB t qs).deep : Int) = dep t qs
  | n, qs, hn, g => by
    cases e : (best t qs).2 with
    | none =>
      rw [planB_none g e, (dep_zero g).mpr (best_none g e)]
      rfl
    | some l =>
      obtain ⟨hl, hd⟩ := best_some g e
      obtain ⟨k, q, S⟩ := look_split g hl
      have w1 := S.wy
      have w2 := S.wn
      cases n with
      | zero => omega
      | succ n =>
        have h1 := plan_deep n (show wid (yB t qs l) ≤ n by omega) S.gy
        have h2 := plan_deep n (show wid (nB t qs l) ≤ n by omega) S.gn
        rw [planB_some g e, hd]
        unfold dl
        rw [← h1, ← h2]
        show ((max (planB t (yB t qs l)).deep (planB t (nB t qs l)).deep + 1 : Nat) : Int) = _
        omega
theorem plan_okB : ∀ (n : Nat) {qs : Bx}, wid qs ≤ n → GB t qs → ∀ N : Int, qs.length = N → (planB t qs).ok N
  | n, qs, hn, g, N, hN => by
    cases e : (best t qs).2 with
    | none =>
      rw [planB_none g e]
      trivial
    | some l =>
      obtain ⟨hl, hd⟩ := best_some g e
      obtain ⟨k, q, S⟩ := look_split g hl
      have w1 := S.wy
      have w2 := S.wn
      cases n with
      | zero => omega
      | succ n =>
        have hk := (List.getElem?_eq_some_iff.mp S.at').1
        rw [planB_some g e]
        have s1 := S.sy.1
        have s2 := S.sn.1
        rw [List.length_set] at s1 s2
        have a := S.a
        exact ⟨by omega, by omega, plan_okB n (by omega) S.gy N (by omega), plan_okB n (by omega) S.gn N (by omega)⟩
/-- what is left by the answers of a world -/
def leftP (w : List Int) : PlanT → List (List Int) → List (List Int)
  | .leaf, es => es
  | .node k m y n, es => if m ≤ nthW w k then leftP w y (es.filter (geP k.toNat m)) else leftP w n (es.filter (ltP k.toNat m))
theorem left_one : ∀ (n : Nat) {qs : Bx} {es : List (List Int)}, wid qs ≤ n → GB t qs → Wl t qs es → ∀ w, IsW qs t w → leftP w (planB t qs) es = [w]
  | n, qs, es, hn, g, W, w, hw => by
    cases e : (best t qs).2 with
    | none =>
      have hno := best_none g e
      rw [planB_none g e]
      show es = [w]
      rw [W.one g hno, only_world ((no_looks_iff g.ok).mp hno) hw.1]
    | some l =>
      obtain ⟨hl, hd⟩ := best_some g e
      obtain ⟨k, q, S⟩ := look_split g hl
      have w1 := S.wy
      have w2 := S.wn
      cases n with
      | zero => omega
      | succ n =>
        obtain ⟨x, hx, _⟩ := inBox_get hw.1 S.at'
        have hnk : nthW w l.1 = x := by
          unfold nthW
          rw [S.a, Int.toNat_natCast, getD_at hx]
        have hk : l.1.toNat = k := by rw [S.a, Int.toNat_natCast]
        rw [planB_some g e]
        show (if l.2 ≤ nthW w l.1 then _ else _) = [w]
        rw [hnk, hk]
        by_cases c : l.2 ≤ x
        · rw [if_pos c]
          exact left_one n (by omega) S.gy (W.yes S) w ((S.iy w).mpr ⟨hw, x, hx, c⟩)
        · rw [if_neg c]
          exact left_one n (by omega) S.gn (W.no S) w ((S.in' w).mpr ⟨hw, x, hx, by omega⟩)
theorem walk_most : ∀ (n : Nat) {qs : Bx}, wid qs ≤ n → GB t qs → ∃ w, IsW qs t w ∧ (walk w (planB t qs)).length = (planB t qs).deep
  | n, qs, hn, g => by
    cases e : (best t qs).2 with
    | none =>
      obtain ⟨w, hw⟩ := narB_ex g.ok g.ti
      rw [planB_none g e]
      exact ⟨w, hw, rfl⟩
    | some l =>
      obtain ⟨hl, hd⟩ := best_some g e
      obtain ⟨k, q, S⟩ := look_split g hl
      have w1 := S.wy
      have w2 := S.wn
      cases n with
      | zero => omega
      | succ n =>
        have hdeep : (planB t qs).deep = max (planB t (yB t qs l)).deep (planB t (nB t qs l)).deep + 1 := by
          rw [planB_some g e]
          rfl
        have hwalk : ∀ w x, w[k]? = some x → (walk w (planB t qs)).length = (if l.2 ≤ x then walk w (planB t (yB t qs l)) else walk w (planB t (nB t qs l))).length + 1 := fun w x hx => by
          have hnk : nthW w l.1 = x := by
            unfold nthW
            rw [S.a, Int.toNat_natCast, getD_at hx]
          rw [planB_some g e, walk, hnk, List.length_cons]
        by_cases c : (planB t (nB t qs l)).deep ≤ (planB t (yB t qs l)).deep
        · obtain ⟨w, hw, h⟩ := walk_most n (show wid (yB t qs l) ≤ n by omega) S.gy
          obtain ⟨hw', x, hx, hm⟩ := (S.iy w).mp hw
          refine ⟨w, hw', ?_⟩
          rw [hwalk w x hx, if_pos hm, h, hdeep]
          omega
        · obtain ⟨w, hw, h⟩ := walk_most n (show wid (nB t qs l) ≤ n by omega) S.gn
          obtain ⟨hw', x, hx, hm⟩ := (S.in' w).mp hw
          refine ⟨w, hw', ?_⟩
          rw [hwalk w x hx, if_neg (by omega), h, hdeep]
          omega
theorem one_iff (g : GB t qs) (W : Wl t qs es) : dep t qs = 0 ↔ es.length = 1 := by
  rw [dep_zero g]
  constructor
  · intro h
    rw [W.one g h]
    rfl
  · intro h
    by_cases c : looksFrom 0 qs = []
    · exact c
    · exfalso
      cases el : looksFrom 0 qs with
      | nil => exact c el
      | cons l L =>
        obtain ⟨k, q, S⟩ := look_split (l := l) g (by rw [el]; exact List.mem_cons_self ..)
        have h1 := (W.yes S).ne S.gy
        have h2 := (W.no S).ne S.gn
        match es, h with
        | [a], _ =>
          have e1 : ∃ w, w ∈ [a].filter (geP k l.2) := List.exists_mem_of_ne_nil _ h1
          have e2 : ∃ w, w ∈ [a].filter (ltP k l.2) := List.exists_mem_of_ne_nil _ h2
          obtain ⟨u, hu⟩ := e1
          obtain ⟨v, hv⟩ := e2
          rw [List.mem_filter, List.mem_singleton] at hu hv
          obtain ⟨rfl, hu⟩ := hu
          obtain ⟨rfl, hv⟩ := hv
          unfold geP at hu
          unfold ltP at hv
          simp at hu hv
          omega
end
end OI.Y

/-! SE6: equality of trees of numbers. -/
namespace OI.Y
open PySem (Str PyData)
mutual
/-- a tree of numbers and None -/
def D.itr : D → Bool
  | .int _ => true
  | .non => true
  | .tup xs => D.itrs xs
  | .lst xs => D.itrs xs
  | _ => false
def D.itrs : List D → Bool
  | [] => true
  | x :: xs => D.itr x && D.itrs xs
end
mutual
/-- how deep it is -/
def D.dpt : D → Nat
  | .tup xs => D.dpts xs + 1
  | .lst xs => D.dpts xs + 1
  | _ => 0
def D.dpts : List D → Nat
  | [] => 0
  | x :: xs => max (D.dpt x) (D.dpts xs)
end
mutual
theorem itr_lay : ∀ {d : D}, (D.itr (d)) = true → (toPy d).canLay0 = true
  | .int _, _ => rfl
  | .non, _ => rfl
  | .tup xs, h => by
    show PyData.canLayAll0 (toPys xs) = true
    exact itrs_lay h
  | .lst xs, h => by
    show PyData.canLayAll0 (toPys xs) = true
    exact itrs_lay h
  | .bl _, h => by cases h
  | .str _, h => by cases h
  | .dic _ _, h => by cases h
  | .scr _, h => by cases h
  | .loc _, h => by cases h
  | .exn _, h => by cases h
  | .lam _ _, h => by cases h
theorem itrs_lay : ∀ {ds : List D}, D.itrs ds = true → PyData.canLayAll0 (toPys ds) = true
  | [], _ => rfl
  | d :: ds, h => by
    unfold D.itrs at h
    rw [Bool.and_eq_true] at h
    show ((toPy d).canLay0 && PyData.canLayAll0 (toPys ds)) = true
    rw [itr_lay h.1, itrs_lay h.2]
    rfl
end
mutual
theorem itr_deep : ∀ {d : D}, (D.itr (d)) = true → (toPy d).depth = (D.dpt (d))
  | .int _, _ => by simp [toPy, PyData.depth, D.dpt]
  | .non, _ => by simp [toPy, PyData.depth, D.dpt]
  | .tup xs, h => by
    have := itrs_deep (ds := xs) h
    simp only [toPy, PyData.depth, D.dpt, this]
  | .lst xs, h => by
    have := itrs_deep (ds := xs) h
    simp only [toPy, PyData.depth, D.dpt, this]
  | .bl _, h => by cases h
  | .str _, h => by cases h
  | .dic _ _, h => by cases h
  | .scr _, h => by cases h
  | .loc _, h => by cases h
  | .exn _, h => by cases h
  | .lam _ _, h => by cases h
theorem itrs_deep : ∀ {ds : List D}, D.itrs ds = true → PyData.depthAll (toPys ds) = D.dpts ds
  | [], _ => by simp [toPys, PyData.depthAll, D.dpts]
  | d :: ds, h => by
    unfold D.itrs at h
    rw [Bool.and_eq_true] at h
    have h1 := itr_deep h.1
    have h2 := itrs_deep h.2
    simp only [toPys, PyData.depthAll, D.dpts, h1, h2]
end
mutual
theorem itr_eqv : ∀ {d e : D}, (D.itr (d)) = true → (D.itr (e)) = true → (PyData.eqv (toPy d) (toPy e) = true ↔ d = e)
  | .int i, e, _, h => by
    cases e <;> first | (cases h; done) | simp [toPy, PyData.eqv]
  | .non, e, _, h => by
    cases e <;> first | (cases h; done) | simp [toPy, PyData.eqv]
  | .tup xs, e, h1, h => by
    cases e <;> first | (cases h; done) | skip
    · simp [toPy, PyData.eqv]
    · simp [toPy, PyData.eqv]
    · simp only [toPy, PyData.eqv, D.tup.injEq]
      exact itrs_eqv h1 h
    · simp [toPy, PyData.eqv]
  | .lst xs, e, h1, h => by
    cases e <;> first | (cases h; done) | skip
    · simp [toPy, PyData.eqv]
    · simp [toPy, PyData.eqv]
    · simp [toPy, PyData.eqv]
    · simp only [toPy, PyData.eqv, D.lst.injEq]
      exact itrs_eqv h1 h
  | .bl _, _, h, _ => by cases h
  | .str _, _, h, _ => by cases h
  | .dic _ _, _, h, _ => by cases h
  | .scr _, _, h, _ => by cases h
  | .loc _, _, h, _ => by cases h
  | .exn _, _, h, _ => by cases h
  | .lam _ _, _, h, _ => by cases h
theorem itrs_eqv : ∀ {ds es : List D}, D.itrs ds = true → D.itrs es = true → (PyData.eqvAll (toPys ds) (toPys es) = true ↔ ds = es)
  | [], [], _, _ => by simp [toPys, PyData.eqvAll]
  | [], _ :: _, _, _ => by simp [toPys, PyData.eqvAll]
  | _ :: _, [], _, _ => by simp [toPys, PyData.eqvAll]
  | d :: ds, e :: es, h1, h2 => by
    unfold D.itrs at h1 h2
    rw [Bool.and_eq_true] at h1 h2
    simp only [toPys, PyData.eqvAll, Bool.and_eq_true, List.cons.injEq]
    rw [itr_eqv h1.1 h2.1, itrs_eqv h1.2 h2.2]
end
theorem itr_eq {a b : M} (h1 : (D.itr (a.frz)) = true) (h2 : (D.itr (b.frz)) = true) (h3 : min (D.dpt (a.frz)) (D.dpt (b.frz)) ≤ 64) : cmp .eq a b = some (decide (a.frz = b.frz)) := by
  have hc : cmpOk a.frz b.frz = true := by
    unfold cmpOk D.lay D.deep
    rw [itr_lay h1, itr_lay h2, itr_deep h1, itr_deep h2]
    simp only [Bool.and_self, Bool.true_and, decide_eq_true_eq]
    exact h3
  have he : eqv a.frz b.frz = decide (a.frz = b.frz) := by
    have := itr_eqv h1 h2
    unfold eqv
    by_cases c : a.frz = b.frz
    · rw [decide_eq_true c]
      exact this.mpr c
    · rw [decide_eq_false c]
      cases e : PyData.eqv (toPy a.frz) (toPy b.frz) with
      | false => rfl
      | true => exact absurd (this.mp e) c
  show eqB a.frz b.frz = _
  generalize a.frz = d at *
  generalize b.frz = e at *
  have main : (if cmpOk d e then some (eqv d e) else none) = some (decide (d = e)) := by rw [if_pos hc, he]
  cases d <;> first | exact main | (cases h1; done)
theorem itr_ne {a b : M} (h1 : (D.itr (a.frz)) = true) (h2 : (D.itr (b.frz)) = true) (h3 : min (D.dpt (a.frz)) (D.dpt (b.frz)) ≤ 64) : cmp .ne a b = some (!decide (a.frz = b.frz)) := by
  show (cmp .eq a b).map _ = _
  rw [itr_eq h1 h2 h3]
  rfl
theorem itrs_map {α : Type} {f : α → D} (h : ∀ x, (D.itr (f x)) = true) : ∀ l : List α, D.itrs (l.map f) = true
  | [] => rfl
  | x :: l => by
    rw [List.map_cons]
    unfold D.itrs
    rw [h x, itrs_map h l]
    rfl
theorem dpts_map {α : Type} {f : α → D} {n : Nat} (h : ∀ x, (D.dpt (f x)) ≤ n) : ∀ l : List α, D.dpts (l.map f) ≤ n
  | [] => Nat.zero_le _
  | x :: l => by
    rw [List.map_cons]
    unfold D.dpts
    have := h x
    have := dpts_map h l
    omega
theorem itr_iD (l : List Int) : D.itrs (iD l) = true := itrs_map (fun _ => rfl) l
theorem dpt_iD (l : List Int) : D.dpts (iD l) ≤ 0 := dpts_map (f := D.int) (n := 0) (fun _ => Nat.le_refl 0) l
theorem itr_vW (w : List Int) : (D.itr (vW w)) = true := itr_iD w
theorem dpt_vW (w : List Int) : (D.dpt (vW w)) ≤ 1 := by
  have := dpt_iD w
  show D.dpts (iD w) + 1 ≤ 1
  omega
theorem itr_vWs (l : List (List Int)) : (D.itr (D.lst (l.map vW))) = true := itrs_map itr_vW l
theorem dpt_vWs (l : List (List Int)) : (D.dpt (D.lst (l.map vW))) ≤ 2 := by
  have := dpts_map dpt_vW l
  show D.dpts (l.map vW) + 1 ≤ 2
  omega
theorem itr_sD (qs : Bx) : (D.itr (sD qs)) = true := by
  show (D.itrs (iD (lows qs)) && (D.itrs (iD (highs qs)) && true)) = true
  rw [itr_iD, itr_iD]
  rfl
theorem dpt_sD (qs : Bx) : (D.dpt (sD qs)) ≤ 2 := by
  have h1 := dpt_iD (lows qs)
  have h2 := dpt_iD (highs qs)
  show max (D.dpts (iD (lows qs)) + 1) (max (D.dpts (iD (highs qs)) + 1) 0) + 1 ≤ 2
  omega
end OI.Y

namespace OI.Y
open PySem (Str)
theorem slook : SLook prog := ⟨rfl, rfl, rfl, rfl, rfl, rfl, rfl, rfl, rfl⟩
section
variable {W n : Nat} {s : Store} {ns : List Int}
theorem is_plan_ok {N : Int} : ∀ (p : PlanT) (n : Nat) (s : Store), p.ok N → p.deep ≤ n → run prog W (n + 1) "_law_is_plan" [p.d, .int N] s = .ok (.val (.bl true)) s
  | .leaf, n, s, _, _ => by
    rw [run_eq (show look prog "_law_is_plan" = some f__law_is_plan from rfl) rfl (by decide)]
    have h1 : cmp .nin (.val (.int 0)) (.ol [.int 0, .int 4]) = some false := by decide +kernel
    have h2 := eq_T0 (xs := []) lay_nil
    simp [f__law_is_plan, begun, PlanT.d, h1, h2, gc_self]
  | .node k m y z, 0, s, _, h => by
    have : (PlanT.node k m y z).deep = max y.deep z.deep + 1 := rfl
    omega
  | .node k m y z, n + 1, s, ho, h => by
    have hd : (PlanT.node k m y z).deep = max y.deep z.deep + 1 := rfl
    obtain ⟨k0, k1, oy, oz⟩ := ho
    have r1 := is_plan_ok y n s oy (by omega)
    have r2 := is_plan_ok z n s oz (by omega)
    rw [run_eq (show look prog "_law_is_plan" = some f__law_is_plan from rfl) rfl (by decide)]
    have h1 : cmp .nin (.val (.int 4)) (.ol [.int 0, .int 4]) = some false := by decide +kernel
    have h2 := eq_T0 (xs := [.int k, .int m, y.d, z.d]) (lay_plan (.node k m y z))
    have h3 : cutD [D.int k, D.int m, y.d, z.d] none (some 2) = [.int k, .int m] := rfl
    simp [f__law_is_plan, begun, PlanT.d, slice_tupB, h1, h2, h3, forL_cons, k0, k1, r1, r2, gc_self]
theorem deep_ok : ∀ (p : PlanT) (n : Nat) (s : Store), p.deep ≤ n → run prog W (n + 1) "_law_deep" [p.d] s = .ok (.val (.int p.deep)) s
  | .leaf, n, s, _ => by
    rw [run_eq (show look prog "_law_deep" = some f__law_deep from rfl) rfl (by decide)]
    have h2 := eq_T0 (xs := []) lay_nil
    simp [f__law_deep, begun, PlanT.d, h2, gc_self, PlanT.deep]
  | .node k m y z, 0, s, h => by
    have : (PlanT.node k m y z).deep = max y.deep z.deep + 1 := rfl
    omega
  | .node k m y z, n + 1, s, h => by
    have hd : (PlanT.node k m y z).deep = max y.deep z.deep + 1 := rfl
    have r1 := deep_ok y n s (by omega)
    have r2 := deep_ok z n s (by omega)
    rw [run_eq (show look prog "_law_deep" = some f__law_deep from rfl) rfl (by decide), hd]
    have h2 := eq_T0 (xs := [.int k, .int m, y.d, z.d]) (lay_plan (.node k m y z))
    have e : (((max y.deep z.deep + 1 : Nat)) : Int) = 1 + max (y.deep : Int) z.deep := by omega
    rw [e]
    simp [f__law_deep, begun, PlanT.d, h2, r1, r2, gc_self]
/-- that a plan settles some worlds -/
def setl : PlanT → List (List Int) → Prop
  | .leaf, es => es.length = 1
  | .node k m y n, es => es.filter (geP k.toNat m) ≠ [] ∧ es.filter (ltP k.toNat m) ≠ [] ∧ setl y (es.filter (geP k.toNat m)) ∧ setl n (es.filter (ltP k.toNat m))
theorem part_lc (R : Runs) {es : List (List Int)} {N : Nat} (hN : ∀ w ∈ es, w.length = N) {k m : Int} (hk : 0 ≤ k ∧ k < N) {y z : D} {a2 a4 : Option M} (op : COp) (p : List Int → Bool) (hop : (op = .ge ∧ p = geP k.toNat m) ∨ (op = .lt ∧ p = ltP k.toNat m)) :
    lcL [] s [3] (.one 3) (evc R (.yes (.cmp op (.idx (.var 3) (.idx (.var 0) (.cst (.int 0)))) (.idx (.var 0) (.cst (.int 1)))))) (valD (ev R (.var 3))) (es.map vW) [] [some (.val (.tup [.int k, .int m, y, z])), some (.val (.lst (es.map vW))), a2, none, a4] s
      = .ok ((es.filter p).map vW) [some (.val (.tup [.int k, .int m, y, z])), some (.val (.lst (es.map vW))), a2, none, a4] s := by
  rw [lc_filter (p := dP p) (g := id) (by simp) [] fun x hx => ?_]
  · rw [List.nil_append, List.map_id, List.filter_map]
    congr 2
    apply List.filter_congr
    intro w _
    exact dP_vW p w
  · obtain ⟨w, hw, rfl⟩ := List.mem_map.mp hx
    have hkk : ((k.toNat : Nat) : Int) = k := by omega
    have hat := at_vW (w := w) (k := k.toNat) (by rw [hN w hw]; omega)
    rw [hkk] at hat
    refine ⟨[some (.val (.tup [.int k, .int m, y, z])), some (.val (.lst (es.map vW))), a2, some (.val (vW w)), a4], [some (.val (.tup [.int k, .int m, y, z])), some (.val (.lst (es.map vW))), a2, some (.val (vW w)), a4], rfl, ?_, ?_⟩
    · rw [dP_vW]
      rcases hop with ⟨rfl, rfl⟩ | ⟨rfl, rfl⟩
      · simp [vW, hat, geP]
      · simp [vW, hat, ltP]
    · rw [dP_vW]
      by_cases c : p w = true
      · rw [if_pos c]
        exact ⟨_, by simp [vW]; rfl, rfl⟩
      · rw [if_neg c]
        rfl
theorem settles_ok {N : Nat} : ∀ (p : PlanT) (n : Nat) (s : Store) (es : List (List Int)), p.ok N → (∀ w ∈ es, w.length = N) → es.length ≤ LIM → setl p es → p.deep ≤ n → run prog W (n + 1) "_law_settles" [p.d, .lst (es.map vW)] s = .ok (.val (.bl true)) s
  | .leaf, n, s, es, _, _, _, hs, _ => by
    rw [run_eq (show look prog "_law_settles" = some f__law_settles from rfl) rfl (by decide)]
    have h2 := eq_T0 (xs := []) lay_nil
    have hs : es.length = 1 := hs
    simp [f__law_settles, begun, PlanT.d, h2, hs, gc_self]
  | .node k m y z, 0, s, es, _, _, _, _, h => by
    have : (PlanT.node k m y z).deep = max y.deep z.deep + 1 := rfl
    omega
  | .node k m y z, n + 1, s, es, ho, hN, hl, hs, h => by
    have hd : (PlanT.node k m y z).deep = max y.deep z.deep + 1 := rfl
    obtain ⟨k0, k1, oy, oz⟩ := ho
    obtain ⟨s1, s2, s3, s4⟩ := hs
    have r1 := settles_ok y n s (es.filter (geP k.toNat m)) oy (fun w hw => hN w (List.mem_filter.mp hw).1) (Nat.le_trans (List.length_filter_le ..) hl) s3 (by omega)
    have r2 := settles_ok z n s (es.filter (ltP k.toNat m)) oz (fun w hw => hN w (List.mem_filter.mp hw).1) (Nat.le_trans (List.length_filter_le ..) hl) s4 (by omega)
    have l1 := part_lc (s := s) (run prog W (n + 1)) hN (k := k) (m := m) ⟨k0, k1⟩ (y := y.d) (z := z.d) (a2 := none) (a4 := none) .ge _ (.inl ⟨rfl, rfl⟩)
    have l2 := part_lc (s := s) (run prog W (n + 1)) hN (k := k) (m := m) ⟨k0, k1⟩ (y := y.d) (z := z.d) (a2 := some (.ol ((es.filter (geP k.toNat m)).map vW))) (a4 := none) .lt _ (.inr ⟨rfl, rfl⟩)
    have e1 := ne_L0 (a := .ol ((es.filter (geP k.toNat m)).map vW)) rfl (lay_vWs _)
    have e2 := ne_L0 (a := .ol ((es.filter (ltP k.toNat m)).map vW)) rfl (lay_vWs _)
    rw [empty_vW] at e1 e2
    have f1 : (es.filter (geP k.toNat m)).isEmpty = false := by
      rw [List.isEmpty_eq_false_iff]
      exact s1
    have f2 : (es.filter (ltP k.toNat m)).isEmpty = false := by
      rw [List.isEmpty_eq_false_iff]
      exact s2
    rw [f1] at e1
    rw [f2] at e2
    rw [run_eq (show look prog "_law_settles" = some f__law_settles from rfl) rfl (by decide)]
    have h2 := eq_T0 (xs := [.int k, .int m, y.d, z.d]) (lay_plan (.node k m y z))
    have hw1 : ∀ a b c : Option M, wipeOk [a, b, c, none, none] [3] = true := fun _ _ _ => rfl
    simp [f__law_settles, begun, PlanT.d, h2, lcK, hw1, hl, wipe]
    rw [l1]
    simp [lcEnd, back, lcK, hw1, hl, wipe]
    rw [l2]
    simp [lcEnd, back, e1, e2, r1, r2, gc_self]
/-! ### what is left -/
theorem left_lc (R : Runs) {src : List Src} (hsrc : still src s s = true) {es : List (List Int)} {N : Nat} (hN : ∀ w ∈ es, w.length = N) {k m : Int} (hk : 0 ≤ k ∧ k < N) (b : Bool) {a0 a1 a2 : Option M} :
    lcL src s [6] (.one 6) (evc R (.yes (.cmp .eq (.cmp .ge (.idx (.var 6) (.var 3)) (.var 4)) (.var 5)))) (valD (ev R (.var 6))) (es.map vW) [] [a0, a1, a2, some (.val (.int k)), some (.val (.int m)), some (.val (.bl b)), none] s
      = .ok ((es.filter (if b then geP k.toNat m else ltP k.toNat m)).map vW) [a0, a1, a2, some (.val (.int k)), some (.val (.int m)), some (.val (.bl b)), none] s := by
  rw [lc_filter (p := dP (if b then geP k.toNat m else ltP k.toNat m)) (g := id) hsrc [] fun x hx => ?_]
  · rw [List.nil_append, List.map_id, List.filter_map]
    congr 2
    apply List.filter_congr
    intro w _
    exact dP_vW _ w
  · obtain ⟨w, hw, rfl⟩ := List.mem_map.mp hx
    have hkk : ((k.toNat : Nat) : Int) = k := by omega
    have hat := at_vW (w := w) (k := k.toNat) (by rw [hN w hw]; omega)
    rw [hkk] at hat
    refine ⟨[a0, a1, a2, some (.val (.int k)), some (.val (.int m)), some (.val (.bl b)), some (.val (vW w))], [a0, a1, a2, some (.val (.int k)), some (.val (.int m)), some (.val (.bl b)), some (.val (vW w))], rfl, ?_, ?_⟩
    · rw [dP_vW]
      have eb : ∀ a b : Bool, cmp .eq (.val (.bl a)) (.val (.bl b)) = some (a == b) := by decide +kernel
      cases b with
      | true =>
        simp [vW, hat, eb, geP]
      | false =>
        have hd : ∀ x : Int, decide (m ≤ x) = !decide (x < m) := fun x => by
          rcases Int.lt_or_le x m with c | c
          · rw [decide_eq_true c, decide_eq_false (by omega)]
            rfl
          · rw [decide_eq_true c, decide_eq_false (by omega)]
            rfl
        simp [vW, hat, eb, ltP]
        exact hd _
    · rw [dP_vW]
      by_cases c : (if b then geP k.toNat m else ltP k.toNat m) w = true
      · rw [if_pos c]
        exact ⟨_, by simp [vW]; rfl, rfl⟩
      · rw [if_neg c]
        rfl
theorem left_loop {w : List Int} {a0 a1 : Option M} {N : Nat} (R : Runs) : ∀ (p : PlanT) (es : List (List Int)) (m : M) (s0 : Store) (o3 o4 o5 : Option M), p.ok N → (∀ w ∈ es, w.length = N) → es.length ≤ LIM → (m = .ol (es.map vW) ∨ m = .val (.lst (es.map vW))) → ∃ m' o3' o4' o5', (m' = .ol ((leftP w p es).map vW) ∨ m' = .val (.lst ((leftP w p es).map vW))) ∧
    forL [] s0 (.many [3, 4, 5]) (execs R W (.cons (.asg (.one 2) (.lc (.var 6) (.one 6) (.of (.var 2)) (.yes (.cmp .eq (.cmp .ge (.idx (.var 6) (.var 3)) (.var 4)) (.var 5))) [6]))
  .nil)) (walk w p) [a0, a1, some m, o3, o4, o5, none] s = .ok .nx [a0, a1, some m', o3', o4', o5', none] s
  | .leaf, es, m, s0, o3, o4, o5, _, _, _, hm => ⟨m, o3, o4, o5, hm, by simp [walk]⟩
  | .node k mm y z, es, m, s0, o3, o4, o5, ho, hN, hl, hm => by
    obtain ⟨k0, k1, oy, oz⟩ := ho
    have step : ∀ (b : Bool) (r : List D), forL [] s0 (.many [3, 4, 5]) (execs R W (.cons (.asg (.one 2) (.lc (.var 6) (.one 6) (.of (.var 2)) (.yes (.cmp .eq (.cmp .ge (.idx (.var 6) (.var 3)) (.var 4)) (.var 5))) [6]))
  .nil)) (.tup [.int k, .int mm, .bl b] :: r) [a0, a1, some m, o3, o4, o5, none] s = forL [] s0 (.many [3, 4, 5]) (execs R W (.cons (.asg (.one 2) (.lc (.var 6) (.one 6) (.of (.var 2)) (.yes (.cmp .eq (.cmp .ge (.idx (.var 6) (.var 3)) (.var 4)) (.var 5))) [6]))
  .nil)) r [a0, a1, some (.ol ((es.filter (if b then geP k.toNat mm else ltP k.toNat mm)).map vW)), some (.val (.int k)), some (.val (.int mm)), some (.val (.bl b)), none] s := fun b r => by
      have hw1 : ∀ a b c d e f : Option M, wipeOk [a, b, c, d, e, f, none] [6] = true := fun _ _ _ _ _ _ => rfl
      rw [forL_cons]
      rcases hm with rfl | rfl
      · have l := left_lc (s := s) R (src := [.slot 2]) (by simp) hN (k := k) (m := mm) ⟨k0, k1⟩ b (a0 := a0) (a1 := a1) (a2 := some (.ol (es.map vW)))
        simp [lcK, hw1, hl, wipe]
        rw [l]
        simp [lcEnd, back]
      · have l := left_lc (s := s) R (src := []) (by simp) hN (k := k) (m := mm) ⟨k0, k1⟩ b (a0 := a0) (a1 := a1) (a2 := some (.val (.lst (es.map vW))))
        simp [lcK, hw1, hl, wipe]
        rw [l]
        simp [lcEnd, back]
    by_cases c : mm ≤ nthW w k
    · obtain ⟨m', b3, b4, b5, hm', h⟩ := left_loop (w := w) (a0 := a0) (a1 := a1) R y (es.filter (geP k.toNat mm)) _ s0 (some (.val (.int k))) (some (.val (.int mm))) (some (.val (.bl true))) oy (fun w hw => hN w (List.mem_filter.mp hw).1) (Nat.le_trans (List.length_filter_le ..) hl) (.inl rfl)
      refine ⟨m', b3, b4, b5, ?_, ?_⟩
      · rw [leftP, if_pos c]
        exact hm'
      · have e : walk w (.node k mm y z) = .tup [.int k, .int mm, .bl true] :: walk w y := by
          rw [walk, if_pos c, decide_eq_true c]
        rw [e, step]
        exact h
    · obtain ⟨m', b3, b4, b5, hm', h⟩ := left_loop (w := w) (a0 := a0) (a1 := a1) R z (es.filter (ltP k.toNat mm)) _ s0 (some (.val (.int k))) (some (.val (.int mm))) (some (.val (.bl false))) oz (fun w hw => hN w (List.mem_filter.mp hw).1) (Nat.le_trans (List.length_filter_le ..) hl) (.inl rfl)
      refine ⟨m', b3, b4, b5, ?_, ?_⟩
      · rw [leftP, if_neg c]
        exact hm'
      · have e : walk w (.node k mm y z) = .tup [.int k, .int mm, .bl false] :: walk w z := by
          rw [walk, if_neg c, decide_eq_false c]
        rw [e, step]
        exact h
theorem lleft_ok {w : List Int} {N : Nat} {p : PlanT} {es : List (List Int)} (ho : p.ok N) (hN : ∀ w ∈ es, w.length = N) (hl : es.length ≤ LIM) : ∃ m, (m = .ol ((leftP w p es).map vW) ∨ m = .val (.lst ((leftP w p es).map vW))) ∧ run prog W (n + 1) "_law_left" [.lst (es.map vW), .lst (walk w p)] s = .ok m s := by
  obtain ⟨m, o3, o4, o5, hm, h⟩ := left_loop (W := W) (s := s) (w := w) (a0 := some (.val (.lst (es.map vW)))) (a1 := some (.val (.lst (walk w p)))) (run prog W n) p es (.val (.lst (es.map vW))) s none none none ho hN hl (.inr rfl)
  refine ⟨m, hm, ?_⟩
  rw [run_eq (show look prog "_law_left" = some f__law_left from rfl) rfl (by decide)]
  simp [f__law_left, begun]
  rw [h]
  rcases hm with rfl | rfl <;> simp [gc_self]
theorem setl_ok {t : Option Int} : ∀ (n : Nat) {qs : Bx} {es : List (List Int)}, wid qs ≤ n → GB t qs → Wl t qs es → setl (planB t qs) es
  | n, qs, es, hn, g, Wl0 => by
    cases e : (best t qs).2 with
    | none =>
      rw [planB_none g e]
      show es.length = 1
      rw [Wl0.one g (best_none g e)]
      rfl
    | some l =>
      obtain ⟨hl, hd⟩ := best_some g e
      obtain ⟨k, q, S⟩ := look_split g hl
      have w1 := S.wy
      have w2 := S.wn
      cases n with
      | zero => omega
      | succ n =>
        have hk : l.1.toNat = k := by rw [S.a, Int.toNat_natCast]
        rw [planB_some g e]
        unfold setl
        rw [hk]
        exact ⟨(Wl0.yes S).ne S.gy, (Wl0.no S).ne S.gn, setl_ok n (by omega) S.gy (Wl0.yes S), setl_ok n (by omega) S.gn (Wl0.no S)⟩
def wBody : ISs := (.cons (.asg (.one 10) (.call "walked" (.cons (.var 7) (.cons (.var 9) .nil))))
  (.cons (.asg (.one 8) (.bi2 "max" (.var 8) (.bi1 "len" (.var 10))))
  (.cons (.ifs (.cmp .ne (.call "_law_left" (.cons (.var 4) (.cons (.var 10) .nil))) (.lst (.cons (.var 9) .nil))) (.cons (.ret (.cst (.bl false)))
  .nil) .nil)
  .nil)))
/-- the greatest of some lengths -/
def mostL (p : PlanT) : List (List Int) → Int → Int
  | [], a => a
  | w :: ws, a => mostL p ws (max a (walk w p).length)
theorem most_le {p : PlanT} {b : Int} : ∀ {ws : List (List Int)} {a : Int}, a ≤ b → (∀ w ∈ ws, ((walk w p).length : Int) ≤ b) → mostL p ws a ≤ b
  | [], a, h, _ => h
  | w :: ws, a, h, hw => most_le (ws := ws) (by have := hw w (List.mem_cons_self ..); omega) fun w' h' => hw w' (List.mem_cons_of_mem _ h')
theorem most_ge {p : PlanT} : ∀ {ws : List (List Int)} {a : Int}, a ≤ mostL p ws a ∧ ∀ w ∈ ws, ((walk w p).length : Int) ≤ mostL p ws a
  | [], a => ⟨Int.le_refl _, fun _ z => by cases z⟩
  | w :: ws, a => by
    obtain ⟨h1, h2⟩ := most_ge (p := p) (ws := ws) (a := max a (walk w p).length)
    refine ⟨by show a ≤ mostL p ws _; omega, fun w' h' => ?_⟩
    show _ ≤ mostL p ws _
    rcases List.mem_cons.mp h' with rfl | h'
    · omega
    · exact h2 w' h'
theorem w_loop {N : Nat} {s : Store} {p : PlanT} {es : List (List Int)} (ho : p.ok N) (hdp : p.deep ≤ 100) (hN : ∀ w ∈ es, w.length = N) (hl : es.length ≤ LIM) (hone : ∀ w ∈ es, leftP w p es = [w]) {s0 : Store} {a0 a1 a2 a3 a5 a6 : Option M} {src : List Src} (hsrc : ∀ s : Store, still src s0 s = true) : ∀ (ws : List (List Int)) (most : Int) (o9 o10 : Option M), (∀ w ∈ ws, w ∈ es) → 0 ≤ most → ∃ o9' o10',
    forL src s0 (.one 9) (execs (run prog 1000000 99) 1000000 wBody) (ws.map vW) [a0, a1, a2, a3, some (.ol (es.map vW)), a5, a6, some (.val p.d), some (.val (.int most)), o9, o10] s = .ok .nx [a0, a1, a2, a3, some (.ol (es.map vW)), a5, a6, some (.val p.d), some (.val (.int (mostL p ws most))), o9', o10'] s
  | [], most, o9, o10, _, _ => ⟨o9, o10, by simp [hsrc, mostL]⟩
  | w :: ws, most, o9, o10, hws, h0 => by
    have hw := hws w (List.mem_cons_self ..)
    have r1 := walked_ok (P := prog) (W := 1000000) (n := 98) (s := s) rfl (w := w) (p := p) (by rw [hN w hw]; exact ho) hdp (by decide)
    obtain ⟨m, hm, r2⟩ := lleft_ok (W := 1000000) (n := 98) (s := s) (w := w) ho hN hl
    rw [hone w hw] at hm
    have hne : cmp .ne m (.ol [vW w]) = some false := by
      have hf : m.frz = .lst [vW w] := by rcases hm with rfl | rfl <;> rfl
      have h1 : (D.itr (D.lst [vW w])) = true := itr_vWs [w]
      have h2 := dpt_vWs [w]
      have h2 : (D.dpt (D.lst [vW w])) ≤ 2 := h2
      rw [itr_ne (b := .ol [vW w]) (by rw [hf]; exact h1) h1 (by rw [hf]; show min (D.dpt (D.lst [vW w])) (D.dpt (D.lst [vW w])) ≤ 64; omega), hf]
      simp [M.frz]
    obtain ⟨b9, b10, h⟩ := w_loop (s := s) (es := es) ho hdp hN hl hone hsrc (a0 := a0) (a1 := a1) (a2 := a2) (a3 := a3) (a5 := a5) (a6 := a6) ws (max most (walk w p).length) (some (.val (vW w))) (some (.ol (walk w p))) (fun w' h' => hws w' (List.mem_cons_of_mem _ h')) (by omega)
    refine ⟨b9, b10, ?_⟩
    have e : mostL p (w :: ws) most = mostL p ws (max most (walk w p).length) := rfl
    have hvw : D.tup (List.map D.int w) = vW w := rfl
    have hbm : ∀ (s : Store), bw m .tmp s = (m, none) := fun s => by rcases hm with rfl | rfl <;> rfl
    rw [hvw] at r1
    rw [e, ← h, List.map_cons, forL_cons, if_pos (hsrc s)]
    simp only [wBody]
    simp [r1, r2, hne, hbm]
theorem wsOf_len {ps : Bx} (h : BV ps) (t : Option Int) : (wsOf ps t).length ≤ LIM := by
  have h1 := allW_len (ps := ps) (ws := [[]]) (fun p hp => by have := h.2.2 p hp; omega)
  have h2 : (wsOf ps t).length ≤ (allW ps).length := List.length_filter_le ..
  have h3 : 8 ^ ps.length ≤ 8 ^ 3 := Nat.pow_le_pow_right (by decide) h.2.1
  have h4 : (8 : Nat) ^ 3 = 512 := by decide
  have h5 : LIM = 16777216 := rfl
  have h6 : (allW ps).length ≤ [([] : List Int)].length * 8 ^ ps.length := h1
  simp only [List.length_singleton, Nat.one_mul] at h6
  omega
def tBody : ISs := (.cons (.asg (.one 3) (.call "_law_box" (.cons (.var 1) .nil)))
  (.cons (.asg (.one 4) (.call "_law_of" (.cons (.idx (.var 3) (.cst (.int 0))) (.cons (.idx (.var 3) (.cst (.int 1))) (.cons (.idx (.var 3) (.cst (.int 2))) .nil)))))
  (.cons (.ifs (.cmp .ne (.var 4) (.lst .nil)) (.cons (.asg (.one 5) (.call "least" (.cons (.var 3) .nil)))
  (.cons (.ifs (.either (.nott (.isi (.var 5) true [.tup])) (.either (.cmp .ne (.bi1 "len" (.var 5)) (.cst (.int 2))) (.nott (.call "_law_is_plan" (.cons (.idx (.var 5) (.cst (.int 1))) (.cons (.bi1 "len" (.idx (.var 3) (.cst (.int 0)))) .nil)))))) (.cons (.ret (.cst (.bl false)))
  .nil) .nil)
  (.cons (.asg (.many [6, 7]) (.var 5))
  (.cons (.ifs (.either (.nott (.call "_law_settles" (.cons (.var 7) (.cons (.var 4) .nil)))) (.nott (.call "_law_same" (.cons (.var 6) (.cons (.call "_law_deep" (.cons (.var 7) .nil)) .nil))))) (.cons (.ret (.cst (.bl false)))
  .nil) .nil)
  (.cons (.asg (.one 8) (.cst (.int 0)))
  (.cons (.fors (.one 9) (.of (.var 4)) wBody)
  (.cons (.ifs (.either (.cmp .ne (.var 8) (.var 6)) (.cmp .ne (.cmp .eq (.var 6) (.cst (.int 0))) (.cmp .eq (.bi1 "len" (.var 4)) (.cst (.int 1))))) (.cons (.ret (.cst (.bl false)))
  .nil) .nil)
  .nil))))))) .nil)
  .nil)))
theorem turn_ok {a0 a2 o3 o4 o5 o6 o7 o8 o9 o10 : Option M} (hS : St ns s) : ∃ (o3' o4' o5' o6' o7' o8' o9' o10' : Option M) (s' : Store),
    execs (run prog 1000000 99) 1000000 tBody [a0, some (.val (.loc 0)), a2, o3, o4, o5, o6, o7, o8, o9, o10] s = .ok .nx [a0, some (.val (.loc 0)), a2, o3', o4', o5', o6', o7', o8', o9', o10'] s' ∧ St ns s' := by
  obtain ⟨ps, t, s1, r1, hp, D1⟩ := law_box_ok (P := prog) (W := 1000000) (n := 97) (s := s) (ns := ns) rfl rfl hS
  have r2 := law_of_ok (P := prog) (W := 1000000) (n := 97) (s := s1) rfl rfl (ps := ps) t (Nat.le_trans hp.2.1 (by decide)) fun p hq => by have := hp.2.2 p hq; omega
  have e1 := ne_L0 (a := .ol ((wsOf ps t).map vW)) rfl (lay_vWs _)
  rw [empty_vW] at e1
  by_cases c : wsOf ps t = []
  · rw [c] at e1
    refine ⟨some (.val (bD ps t)), some (.ol ((wsOf ps t).map vW)), o5, o6, o7, o8, o9, o10, s1, ?_, D1.1⟩
    simp only [tBody]
    simp [bD] at r1 ⊢
    simp [r1, r2]
    rw [c]
    simp at e1 ⊢
    simp [e1]
  · cases hn : narB ps t with
    | none => exact absurd ((wsOf_nil hp.ok).mpr hn) c
    | some qs =>
      have g := hp.bw0.gb hn
      have hW := Wl.of hp.ok hn
      have r3 := least_ok (P := prog) (W := 1000000) (n := 99) (s := s1) (t := t) slook rfl rfl hp (by decide)
      rw [hn] at r3
      dsimp only at r3
      have hqs : qs.length = ps.length := narB_len hn
      have ho := plan_okB _ (Nat.le_refl _) g ps.length (by rw [hqs])
      have hde := plan_deep _ (Nat.le_refl _) g
      have hdw := dep_wid _ (Nat.le_refl _) g
      have hwid := g.wid
      have hN : ∀ w ∈ wsOf ps t, w.length = ps.length := fun w hw => by rw [inBox_len ((hW.mem w).mp hw).1, hqs]
      have r4 := is_plan_ok (W := 1000000) (N := ps.length) (planB t qs) 98 s1 ho (by omega)
      have r5 := settles_ok (W := 1000000) (N := ps.length) (planB t qs) 98 s1 (wsOf ps t) ho hN (wsOf_len hp t) (setl_ok _ (Nat.le_refl _) g hW) (by omega)
      have r6 := deep_ok (W := 1000000) (planB t qs) 98 s1 (by omega)
      have r7 := same_refl (P := prog) (W := 1000000) rfl 98 (.int (dep t qs)) s1 rfl (Nat.zero_le _)
      rw [hde] at r6
      obtain ⟨o9', o10', hl⟩ := w_loop (s := s1) (N := ps.length) (p := planB t qs) (es := wsOf ps t) ho (by omega) hN (wsOf_len hp t) (fun w hw => left_one _ (Nat.le_refl _) g hW w ((hW.mem w).mp hw)) (a0 := a0) (a1 := some (.val (.loc 0))) (a2 := a2) (a3 := some (.val (bD ps t))) (a5 := some (.val (.tup [.int (dep t qs), (planB t qs).d]))) (a6 := some (.val (.int (dep t qs)))) (s0 := s1) (src := [.slot 4]) (fun s => rfl) (wsOf ps t) 0 o9 o10 (fun w h => h) (Int.le_refl _)
      have hm : mostL (planB t qs) (wsOf ps t) 0 = dep t qs := by
        apply Int.le_antisymm
        · refine most_le (dep_nonneg _ (Nat.le_refl _) g) fun w hw => ?_
          have := walk_len w (planB t qs)
          omega
        · obtain ⟨w, hw, e⟩ := walk_most _ (Nat.le_refl _) g
          have := (most_ge (p := planB t qs) (ws := wsOf ps t) (a := 0)).2 w ((hW.mem w).mpr hw)
          omega
      rw [hm] at hl
      have h1 := one_iff g hW
      have eb : ∀ a b : Bool, cmp .ne (.val (.bl a)) (.val (.bl b)) = some (!(a == b)) := by decide +kernel
      have hempty : (wsOf ps t).isEmpty = false := by
        rw [List.isEmpty_eq_false_iff]
        exact c
      rw [hempty] at e1
      have hap : apart [Src.slot 4] (Tg.slots (.one 9) ++ wrs wBody) = true := rfl
      have hbb : (decide (dep t qs = 0) == decide (((wsOf ps t).length : Int) = 1)) = true := by
        rw [beq_iff_eq]
        by_cases c : dep t qs = 0
        · have := h1.mp c
          rw [decide_eq_true c, decide_eq_true (by omega)]
        · have : (wsOf ps t).length ≠ 1 := fun z => c (h1.mpr z)
          rw [decide_eq_false c, decide_eq_false (by omega)]
      refine ⟨some (.val (bD ps t)), some (.ol ((wsOf ps t).map vW)), some (.val (.tup [.int (dep t qs), (planB t qs).d])), some (.val (.int (dep t qs))), some (.val (planB t qs).d), some (.val (.int (dep t qs))), o9', o10', s1, ?_, D1.1⟩
      simp only [tBody]
      simp [bD] at r1 r3 hl ⊢
      simp [r1, r2, e1, r3, r4, r5, r6, r7, hap]
      rw [hl]
      simp [eb, hbb]
end
theorem pure_law : ∀ ns : List Int, ns.length ≤ 63 → (∀ z ∈ ns, PySem.Builtin.Int.intBits z ≤ 1048576) → ∃ s, run prog 1000000 100 "law" [.scr ns] [] = .ok (.val (.bl true)) s := fun ns _ _ => by
  obtain ⟨m, hs⟩ := start_ok (P := prog) (W := 1000000) (n := 98) (ns := ns) rfl
  obtain ⟨e', s', h1, h2⟩ := forL_inv (src := []) (s0 := [⟨.lst [.scr ns, .int 0, .int m, .int 0], 0⟩]) (tg := .one 2) (body := execs (run prog 1000000 99) 1000000 tBody) (Inv := fun e s => St ns s ∧ ∃ o2 o3 o4 o5 o6 o7 o8 o9 o10, e = [some (.val (.scr ns)), some (.val (.loc 0)), o2, o3, o4, o5, o6, o7, o8, o9, o10])
    (fun e s _ => still_nil _ _) (l := rng 0 4) (e := [some (.val (.scr ns)), some (.val (.loc 0)), none, none, none, none, none, none, none, none, none]) (s := [⟨.lst [.scr ns, .int 0, .int m, .int 0], 0⟩]) (fun x hx e s hI => by
      obtain ⟨hS, o2, o3, o4, o5, o6, o7, o8, o9, o10, rfl⟩ := hI
      obtain ⟨p3, p4, p5, p6, p7, p8, p9, p10, s', h, hS'⟩ := turn_ok (a0 := some (.val (.scr ns))) (a2 := some (.val x)) (o3 := o3) (o4 := o4) (o5 := o5) (o6 := o6) (o7 := o7) (o8 := o8) (o9 := o9) (o10 := o10) hS
      exact ⟨_, _, s', rfl, h, hS', _, _, _, _, _, _, _, _, _, rfl⟩)
    ⟨⟨0, m, 0, 0, rfl, Int.le_refl _⟩, none, none, none, none, none, none, none, none, none, rfl⟩
  obtain ⟨hS1, o2, o3, o4, o5, o6, o7, o8, o9, o10, rfl⟩ := h2
  refine ⟨gc [] (.val (.bl true)) s', ?_⟩
  rw [run_eq (show look prog "law" = some f_law from rfl) rfl (by decide)]
  have e : f_law.body = (.cons (.asg (.one 1) (.call "_law_start" (.cons (.var 0) .nil))) (.cons (.fors (.one 2) (.rng1 (.cst (.int 4))) tBody) (.cons (.ret (.cst (.bl true))) .nil))) := rfl
  rw [e]
  simp [f_law, begun, hs, getI_ok']
  rw [h1]
  simp
end OI.Y
/-! OIa1: dicts whose keys are tuples of tuples: the kind of such keys. -/
namespace NK
set_option maxRecDepth 100000
set_option maxHeartbeats 2000000
open PySem
open PySem.Sem (wp)
section
variable {prog : Program} {w : World} {K : Type} [DecidableEq K] (ik : HeapKind prog w K)
inductive NItems (h : Heap) : List K → List Value → Prop
  | nil : NItems h [] []
  | cons {k : K} {q : Addr} {ks : List K} {vs : List Value} : ik.is h k q → NItems h ks vs → NItems h (k :: ks) (.ref q :: vs)
def IsNest (h : Heap) (ks : List K) (a : Addr) : Prop := ∃ o items n, h.get? a = some o ∧ o.cls = .type "tuple" ∧ o.data = .seq items n ∧ NItems ik h ks items.toList
variable {ik}
theorem NItems.inj {h : Heap} {x y : List K} {vs : List Value} (hx : NItems ik h x vs) (hy : NItems ik h y vs) : x = y := by
  induction hx generalizing y with
  | nil => cases hy; rfl
  | cons h1 _ ih =>
    cases hy with
    | cons h2 t2 => rw [ik.inj h1 h2, ih t2]
theorem NItems.length {h : Heap} {x : List K} {vs : List Value} (hx : NItems ik h x vs) : x.length = vs.length := by
  induction hx with
  | nil => rfl
  | cons _ _ ih => simp [ih]
theorem NItems.keeps {h h' : Heap} {x : List K} {vs : List Value} (hx : NItems ik h x vs) (k : ∀ {k : K} {q : Addr}, ik.is h k q → ik.is h' k q) : NItems ik h' x vs := by
  induction hx with
  | nil => exact .nil
  | cons h1 _ ih => exact .cons (k h1) ih
theorem IsNest.typeIs {s : Shared} {ks : List K} {a : Addr} (x : IsNest ik s.heap ks a) : s.TypeIs (.ref a) "tuple" := let ⟨o, _, _, ho, hc, _⟩ := x; ⟨o, ho, hc⟩
theorem IsNest.inj {h : Heap} {a : Addr} {x y : List K} (hx : IsNest ik h x a) (hy : IsNest ik h y a) : x = y := by
  obtain ⟨o, items, n, ho, _, hd, hi⟩ := hx
  obtain ⟨o', items', n', ho', _, hd', hi'⟩ := hy
  obtain rfl : o = o' := Option.some.inj (ho.symm.trans ho')
  rw [hd] at hd'
  injection hd' with h1 _
  subst h1
  exact hi.inj hi'
theorem IsNest.keeps {h h' : Heap} {ks : List K} {a d : Addr} {o : Obj} {es ep} (x : IsNest ik h ks a) (ho : h.get? d = some o) (hd : o.data = .dict es ep) (hs : Heap.SameBut d h h') :
    IsNest ik h' ks a := by
  obtain ⟨o', items, n, ho', hc, hd', hi⟩ := x
  have hne : a ≠ d := by
    rintro rfl
    obtain rfl : o' = o := Option.some.inj (ho'.symm.trans ho)
    rw [hd] at hd'; exact nomatch hd'
  exact ⟨o', items, n, (hs.2 a hne).trans ho', hc, hd', hi.keeps fun h1 => ik.keeps h1 ho hd hs⟩
def nestHash (ik : HeapKind prog w K) (ks : List K) : Int := reduceHash (Builtin.Tuple.tupleHashOf (ks.map ik.hash))
def nestDraws (ik : HeapKind prog w K) (ks : List K) : Nat := (ks.map ik.draws).sum + 1
variable {A : Around} {E : Value → Shared → Prop} {s : Shared}
theorem pyHash_nest {ks : List K} {a : Addr} {Q : Int → Shared → Prop} (hu : A.units < cLine) (hr : ik.room A.in1) (hk : IsNest ik s.heap ks a) (h : Q (nestHash ik ks) { s with toks := s.toks + nestDraws ik ks }) :
    wpAny (model prog w) A (pyHash (.ref a)) Q E s := by
  have hT := hk.typeIs
  obtain ⟨o, items, n, ho, _, hd, hi⟩ := hk
  unfold pyHash
  first | unfold pyHashByItsType | skip
  first | refine wpAny_bind (wpAny_cRoomFor_or (.inr hu) ?_) | skip
  refine wpAny_bind (wpAny_specialOf hT F.slot_tuple_hash.lookup ?_)
  show wpAny _ _ (if (some (Value.builtin "tuple.__hash__") == some Value.none) = true then _ else _) Q E s
  rw [if_neg (by rw [beq_builtin_none]; exact Bool.false_ne_true)]
  refine wpAny_bind (wpAny_specialOf hT F.slot_tuple_hash.lookup ?_)
  show wpAny _ _ (callSpecialIfBoundUnlessNone? (.ref a) "__hash__" _ >>= _) Q E s
  refine wpAny_bind (wpAny_callSpecialIfBoundUnlessNone?_slot hT F.slot_tuple_hash (wpAny_call_entry F.slot_tuple_hash hT F.entry_tuple_hash ?_ (F.args_tuple_hash_1 _)))
  show wpAny _ _ (Builtin.Tuple.tupleItemsOf (.ref a) >>= _) _ _ s
  refine wpAny_bind (wpAny_tupleItemsOf ho hd ?_)
  refine wpAny_bind ?_
  rw [← Array.forIn_toList]
  refine wpAny_forIn_list _
    (fun rest (b : Array Int) s' => ∃ done left, ks = done ++ left ∧ NItems ik s.heap left rest ∧ b.toList = done.map ik.hash ∧ s' = { s with toks := s.toks + (done.map ik.draws).sum })
    _ ?_ ?_ _ _ ⟨[], ks, rfl, hi, rfl, rfl⟩
  · rintro x rest b s' ⟨done, left, rfl, hl, hb, rfl⟩
    cases hl with
    | @cons k q ks' _ h1 hl' =>
      refine wpAny_bind (ik.pyHash ?_ h1 ?_)
      · exact hr
      · first
          | exact wpAny_pure ⟨done ++ [k], ks', by simp, hl', by simp [hb], by simp [Nat.add_assoc]⟩
          | exact wpAny_bind (wpAny_pure (wpAny_pure ⟨done ++ [k], ks', by simp, hl', by simp [hb], by simp [Nat.add_assoc]⟩))
  · rintro b s' ⟨done, left, rfl, hl, hb, rfl⟩
    cases hl
    rw [List.append_nil] at h
    show wpAny _ _ (retInt (Builtin.Tuple.tupleHashOf b.toList)) _ _ _
    rw [hb]
    refine wpAny_ret_mkInt ?_
    show wpAny _ _ (if (decide (-(2 : Int) ^ 63 ≤ Builtin.Tuple.tupleHashOf (done.map ik.hash)) && decide (Builtin.Tuple.tupleHashOf (done.map ik.hash) < 2 ^ 63)) = true then _ else _) Q E _
    unfold nestHash reduceHash nestDraws at h
    by_cases hr : (decide (-(2 : Int) ^ 63 ≤ Builtin.Tuple.tupleHashOf (done.map ik.hash)) && decide (Builtin.Tuple.tupleHashOf (done.map ik.hash) < 2 ^ 63)) = true
    · rw [if_pos hr]
      rw [if_pos hr] at h
      exact wpAny_pure (by simpa [Nat.add_assoc] using h)
    · rw [if_neg hr]
      rw [if_neg hr] at h
      exact wpAny_bind (wpAny_rule (wpAny_pure (by simpa [Nat.add_assoc] using h)))
theorem nest_eq_tree {x y : List K} {a b : Addr} {P : Fin → Shared → Prop} (hr : ik.room A) (hx : IsNest ik s.heap x a) (hy : IsNest ik s.heap y b) (h : P (.done (.ret (.bool (decide (x = y))))) s) :
    wpAny (model prog w) A (Builtin.«tuple.__eq__» ⟨[.ref a, .ref b], []⟩) P E s := by
  have hTb := hy.typeIs
  obtain ⟨oa, xs, na, hoa, _, hda, hia⟩ := hx
  obtain ⟨ob, ys, nb, hob, _, hdb, hib⟩ := hy
  show wpAny _ _ (isInstance (.ref b) (.type "tuple") >>= _) _ _ s
  refine wpAny_bind (wpAny_isInstance hTb isSubtype_tuple_tuple ?_)
  simp only [Bool.not_true, Bool.false_eq_true, if_false]
  refine wpAny_bind (wpAny_tupleItemsOf hoa hda ?_)
  refine wpAny_bind (wpAny_tupleItemsOf hob hdb ?_)
  refine wpAny_bind ?_
  refine wpAny_forIn_list _
    (fun rest r s' => r.1 = none ∧ s' = s ∧ ∃ x' y' xs' ys', rest = List.zip xs' ys' ∧ NItems ik s.heap x' xs' ∧ NItems ik s.heap y' ys' ∧ decide (x' = y') = decide (x = y) ∧ (xs'.length == ys'.length) = (xs.size == ys.size))
    _ ?_ ?_ _ _ ⟨rfl, rfl, x, y, xs.toList, ys.toList, rfl, hia, hib, rfl, by simp⟩
  · rintro ⟨u, v⟩ rest r s' ⟨hr', rfl, x', y', xs', ys', hz, hx', hy', hdec, hlen⟩
    cases hx' with
    | nil => simp at hz
    | @cons k1 q1 x'' xs'' h1 hx'' =>
      cases hy' with
      | nil => simp at hz
      | @cons k2 q2 y'' ys'' h2 hy'' =>
        simp only [List.zip_cons_cons, List.cons.injEq, Prod.mk.injEq] at hz
        obtain ⟨⟨rfl, rfl⟩, rfl⟩ := hz
        refine wpAny_bind (ik.eqBool (x := k1) (y := k2) hr h1 h2 ?_)
        by_cases hk : k1 = k2
        · subst hk
          rw [decide_eq_true rfl]
          simp only [Bool.not_true, Bool.false_eq_true, if_false]
          refine wpAny_pure ⟨rfl, rfl, x'', y'', xs'', ys'', rfl, hx'', hy'', ?_, by simpa using hlen⟩
          rw [← hdec]
          by_cases hxy : x'' = y''
          · simp [hxy]
          · simp [hxy]
        · rw [decide_eq_false hk]
          simp only [Bool.not_false, if_true]
          have hf : decide (x = y) = false := by rw [← hdec]; simp [hk]
          rw [hf] at h
          exact wpAny_bind (wpAny_pure (wpAny_pure (wpAny_pure h)))
  · rintro ⟨r1, r2⟩ s' ⟨hr', rfl, x', y', xs', ys', hz, hx', hy', hdec, hlen⟩
    simp only at hr'
    subst hr'
    refine wpAny_pure ?_
    have hfin : (xs.size == ys.size) = decide (x = y) := by
      rw [← hdec, ← hlen]
      cases hx' with
      | nil =>
        cases hy' with
        | nil => simp
        | cons _ _ => simp
      | cons _ _ =>
        cases hy' with
        | nil => simp
        | cons _ _ => simp at hz
    show P (.done (.ret (.bool (xs.size == ys.size)))) s'
    rw [hfin]; exact h
theorem eqBool_nest {x y : List K} {a b : Addr} {Q : Bool → Shared → Prop} (hu : A.units < cLine) (hr : ik.room A.in1) (hx : IsNest ik s.heap x a) (hy : IsNest ik s.heap y b) (h : Q (decide (x = y)) s) :
    wpAny (model prog w) A (eqBool (.ref a) (.ref b)) Q E s := by
  unfold eqBool
  try with_reducible refine wpAny_holding ?_
  show wpAny _ _ (if (Value.ref a == Value.ref b) = true then _ else _) Q E s
  by_cases hab : (Value.ref a == Value.ref b) = true
  · rw [if_pos hab]
    have e : a = b := by have := eq_of_beq hab; injection this
    subst e
    obtain rfl := hx.inj hy
    exact wpAny_bind (wpAny_rule (wpAny_pure (by simpa using h)))
  · rw [if_neg hab]
    exact wpAny_bind (wpAny_richCompare_same_room (op := .Eq) hx.typeIs hy.typeIs F.slot_tuple_eq
      (wpAny_call_entry F.slot_tuple_eq hx.typeIs F.entry_tuple_eq (nest_eq_tree hr hx hy ⟨_, rfl, (fun e => nomatch e), wpAny_truthy_bool h⟩) (F.args_tuple_eq_2 _ _)) hu)
/-- the inner keys are quiet one step deeper, too -/
def Quiet7 (ik : HeapKind prog w K) : Prop := ∀ {A : Around} {E : Value → Shared → Prop} {s : Shared} {k : K} {a : Addr} {Q : Bool → Shared → Prop}, ik.is s.heap k a → Q true s → wpAny (model prog w) A (eqIsQuiet 7 (.ref a)) Q E s
theorem quiet_nest {ks : List K} {a : Addr} {Q : Bool → Shared → Prop} (h7 : Quiet7 ik) (hk : IsNest ik s.heap ks a) (h : Q true s) : wpAny (model prog w) A (eqIsQuiet 8 (.ref a)) Q E s := by
  have hT := hk.typeIs
  obtain ⟨o, items, n, ho, _, hd, hi⟩ := hk
  unfold eqIsQuiet
  refine wpAny_bind (wpAny_specialOf hT F.slot_tuple_eq.lookup ?_)
  show wpAny _ _ (isInstance (.ref a) (.type "tuple") >>= _) _ _ s
  refine wpAny_bind (wpAny_isInstance hT isSubtype_tuple_tuple ?_)
  simp only [Bool.not_true, Bool.false_eq_true, if_false]
  refine wpAny_bind (wpAny_seqItems ho hd ?_)
  refine wpAny_bind ?_
  show wpAny _ _ (forIn items _ _) _ _ s
  rw [← Array.forIn_toList]
  refine wpAny_forIn_list _ (fun rest r s' => r.1 = none ∧ s' = s ∧ ∃ left, NItems ik s.heap left rest) _ ?_ ?_ _ _ ⟨rfl, rfl, ks, hi⟩
  · rintro v rest r s' ⟨hr, rfl, left, hl⟩
    cases hl with
    | @cons k q ks' _ h1 hl' =>
      refine wpAny_bind (h7 h1 ?_)
      simp only [Bool.not_true, Bool.false_eq_true, if_false]
      exact wpAny_pure ⟨rfl, rfl, ks', hl'⟩
  · rintro ⟨r1, r2⟩ s' ⟨hr, rfl, _⟩
    simp only at hr
    subst hr
    exact wpAny_pure h
theorem quiet7_tuple {knd : KeyKind prog w K} : Quiet7 (tupleKind knd) := fun {A E s ks a Q} hk h => by
  have hT := IsTupleKey.typeIs hk
  obtain ⟨o, items, n, ho, _, hd, hi⟩ := hk
  unfold eqIsQuiet
  refine wpAny_bind (wpAny_specialOf hT F.slot_tuple_eq.lookup ?_)
  show wpAny _ _ (isInstance (.ref a) (.type "tuple") >>= _) _ _ s
  refine wpAny_bind (wpAny_isInstance hT isSubtype_tuple_tuple ?_)
  simp only [Bool.not_true, Bool.false_eq_true, if_false]
  refine wpAny_bind (wpAny_seqItems ho hd ?_)
  refine wpAny_bind ?_
  show wpAny _ _ (forIn items _ _) _ _ s
  rw [← Array.forIn_toList]
  refine wpAny_forIn_list _ (fun rest r s' => r.1 = none ∧ s' = s ∧ ∀ v ∈ rest, carriedByValue v = true) _ ?_ ?_ _ _ ⟨rfl, rfl, hi.byValue⟩
  · rintro v rest r s' ⟨hr, rfl, hall⟩
    rw [eqIsQuiet_byValue _ (hall v List.mem_cons_self)]
    refine wpAny_bind (wpAny_pure ?_)
    simp only [Bool.not_true, Bool.false_eq_true, if_false]
    exact wpAny_pure ⟨rfl, rfl, fun u hu' => hall u (List.mem_cons_of_mem _ hu')⟩
  · rintro ⟨r1, r2⟩ s' ⟨hr, rfl, _⟩
    simp only at hr
    subst hr
    exact wpAny_pure h
end
/-- keys that are tuples of keys of a kind -/
def nestKind {prog : Program} {w : World} {K : Type} [DecidableEq K] (ik : HeapKind prog w K) (h7 : Quiet7 ik) : HeapKind prog w (List K) where
  is := IsNest ik
  hash := nestHash ik
  draws := nestDraws ik
  room := fun A => A.units < cLine ∧ ik.room A.in1
  inj := fun hx hy => hx.inj hy
  keeps := fun x ho hd hs => x.keeps ho hd hs
  pyHash := fun hu hk h => pyHash_nest hu.1 hu.2 hk h
  eqBool := fun hu hx hy h => eqBool_nest hu.1 hu.2 hx hy h
  quiet := fun hk h => quiet_nest h7 hk h
end NK
namespace NK
open PySem
/-- tuples of tuples of ints -/
abbrev NKey := List (List Int)
def nk (P : Program) (w : World) : HeapKind P w NKey := nestKind (tupleKind (intKind P w)) quiet7_tuple
def nHash (k : NKey) : Int := reduceHash (Builtin.Tuple.tupleHashOf (k.map fun ks => reduceHash (Builtin.Tuple.tupleHashOf (ks.map hashInt))))
theorem nk_hash (P : Program) (w : World) (k : NKey) : (nk P w).hash k = nHash k := rfl
def nEntry (x : NKey × Addr × Value) : DictEntry := ⟨nHash x.1, .ref x.2.1, x.2.2⟩
theorem nk_entry (P : Program) (w : World) : entryOfKey (nk P w) = nEntry := rfl
end NK

/-! OIa2: dicts whose keys are tuples of tuples of ints, as ghosts of the hand layer's heap. -/
namespace NK
open PySem PySem.Spec PyProof.Rows L2
/-- how such a dict is told: key, value, key, value, .., at the end how often it grew -/
def unw : List V → List (Addr × V) × Nat
  | .ref q :: v :: r => ((q, v) :: (unw r).1, (unw r).2)
  | [.int e] => ([], e.toNat)
  | _ => ([], 0)
def weave : List (Addr × V) → Int → List V
  | [], e => [.int e]
  | (q, v) :: r, e => .ref q :: v :: weave r e
theorem unw_weave (e : Int) : ∀ ps : List (Addr × V), unw (weave ps e) = (ps, e.toNat)
  | [] => rfl
  | (q, v) :: r => by
    rw [weave, unw, unw_weave e r]
def ents (ks : List NKey) (ps : List (Addr × V)) (us : List Value) : List (NKey × Addr × Value) := ks.zip ((ps.map (·.1)).zip us)
def DicAt (p : Addr) (ks : List NKey) (vs : List V) (h : Heap) : Prop :=
  ∃ (o : Obj) (es : Array DictEntry) (us : List Value), h.get? p = some o ∧ o.ExactDict ∧ o.data = .dict es (unw vs).2 ∧ Vals ((unw vs).1.map (·.2)) us ∧ es.toList = (ents ks (unw vs).1 us).map nEntry ∧ ks.Nodup ∧ (p == sysModules) = false ∧ ks.length ≤ sizeLine
theorem DicAt.at {p : Addr} {ks : List NKey} {vs : List V} {h h' : Heap} (x : DicAt p ks vs h) (k : ∀ o, h.get? p = some o → h'.get? p = some o) : DicAt p ks vs h' := by
  obtain ⟨o, es, us, e, r⟩ := x
  exact ⟨o, es, us, k o e, r⟩
theorem dic_ext {P : Program} {w : World} {H : Hp} {h : Heap} {p : Addr} {ks : List NKey} {vs : List V} (x : DicAt p ks vs h) : ObjOk P w H h p (.ext (DicAt p ks vs)) :=
  ⟨x, (by obtain ⟨o, _, _, e, _⟩ := x; exact ⟨o, e⟩), fun _ _ y k => y.at k⟩
/-- it is no code object -/
theorem dic_ne {p a : Addr} {ks : List NKey} {vs : List V} {q : Str} : HO.ext (DicAt p ks vs) ≠ LamX.CodeO a q := fun z => by
  have z2 := HO.ext.inj z
  let oc : Obj := { cls := .none, data := .fields #[.none, .str q default] }
  let h : Heap := { (default : Heap) with objs := Array.replicate (a + 1) oc }
  have g : ∀ b o, h.get? b = some o → o = oc := fun b o e => by
    unfold Heap.get? at e
    have ho : h.objs = Array.replicate (a + 1) oc := rfl
    rw [ho] at e
    by_cases hb : b < a + 1
    · rw [Array.getElem?_eq_getElem (by simpa using hb)] at e
      simp only [Array.getElem_replicate] at e
      exact (Option.some.inj e).symm
    · rw [Array.getElem?_eq_none (by simpa using hb)] at e
      cases e
  have c : (fun h : Heap => ∃ (oc : Obj) (vs : Array Value) (t : Tok), h.get? a = some oc ∧ oc.data = .fields vs ∧ vs[1]? = some (.str q t)) h := by
    refine ⟨oc, _, default, ?_, rfl, rfl⟩
    unfold Heap.get?
    have ho : h.objs = Array.replicate (a + 1) oc := rfl
    rw [ho, Array.getElem?_eq_getElem (by simp)]
    simp only [Array.getElem_replicate]
    rfl
  rw [← z2] at c
  obtain ⟨o, es, us, e, _, d, _⟩ := c
  rw [g p o e] at d
  cases d

section
variable {P : Program} {w : World} {H : Hp} {h : Heap} {p : Addr} {ks : List NKey} {ps : List (Addr × V)} {ep : Int}
/-- the key tuples are there -/
def Keys (P : Program) (w : World) (h : Heap) (ks : List NKey) (ps : List (Addr × V)) : Prop := Paired (fun k q => (nk P w).is h k q.1) ks ps
theorem ents_fst {us : List Value} : ∀ {ks : List NKey} {ps : List (Addr × V)} {us : List Value}, ks.length = ps.length → Vals (ps.map (·.2)) us → (ents ks ps us).map (·.1) = ks
  | [], _, _, _, _ => rfl
  | k :: ks, [], _, hl, _ => by cases hl
  | k :: ks, (q, v) :: ps, _, hl, .cons r t => by
    have := ents_fst (us := []) (ks := ks) (ps := ps) (by simpa using hl) t
    unfold ents at this ⊢
    simp only [List.map_cons, List.zip_cons_cons, this]
theorem ents_is : ∀ {ks : List NKey} {ps : List (Addr × V)} {us : List Value}, Keys P w h ks ps → ∀ x ∈ ents ks ps us, (nk P w).is h x.1 x.2.1
  | [], _, _, _, x, hx => by cases hx
  | k :: ks, (q, v) :: ps, [], .cons _ _, x, hx => by
    unfold ents at hx
    simp at hx
  | k :: ks, (q, v) :: ps, u :: us, .cons r t, x, hx => by
    unfold ents at hx
    simp only [List.map_cons, List.zip_cons_cons, List.mem_cons] at hx
    rcases hx with rfl | hx
    · exact r
    · exact ents_is t x hx
theorem dic_h {vs : List V} (ok : ObjOk P w H h p (.ext (DicAt p ks vs))) (hv : vs = weave ps ep) (hk : Keys P w h ks ps) :
    ∃ us, Vals (ps.map (·.2)) us ∧ h.DictOfH (nk P w) p (ents ks ps us) ∧ (p == sysModules) = false ∧ ks.length ≤ sizeLine := by
  obtain ⟨⟨o, es, us, e, hx, hd, hu, he, hn, hs, hz⟩, _⟩ := ok
  subst hv
  rw [unw_weave] at hd hu he
  have hl : ks.length = ps.length := Paired.length hk
  exact ⟨us, hu, ⟨o, es, _, e, hx, hd, he, ents_is hk, by rw [ents_fst (us := us) hl hu]; exact hn⟩, hs, hz⟩
/-- what it holds at a key -/
def atN (ks : List NKey) (ps : List (Addr × V)) (k : NKey) : Option V := ((ks.zip ps).find? fun x => decide (x.1 = k)).map (·.2.2)
theorem atN_rel (k : NKey) : ∀ {ks : List NKey} {ps : List (Addr × V)} {us : List Value}, ks.length = ps.length → Vals (ps.map (·.2)) us → RelO (atN ks ps k) ((atKey (ents ks ps us) k).map (·.2))
  | [], _, _, _, _ => True.intro
  | k' :: ks, [], _, hl, _ => by cases hl
  | k' :: ks, (q, v) :: ps, u :: us, hl, .cons r t => by
    have ih := atN_rel k (ks := ks) (ps := ps) (by simpa using hl) t
    unfold atN atKey ents at ih ⊢
    simp only [List.map_cons, List.zip_cons_cons, List.find?_cons]
    by_cases e : k' = k
    · simp only [e, decide_true]
      exact r
    · simp only [e, decide_false]
      exact ih
/-- the dict behind d[k] = v -/
def putN (ks : List NKey) (ps : List (Addr × V)) (k : NKey) (q : Addr) (v : V) : List NKey × List (Addr × V) :=
  if (atN ks ps k).isSome then (ks, (ks.zip ps).map fun x => if x.1 = k then (x.2.1, v) else x.2) else (ks ++ [k], ps ++ [(q, v)])
theorem ents_put {k : NKey} {v : V} {u : Value} (rv : RelV v u) : ∀ {ks : List NKey} {ps : List (Addr × V)} {us : List Value}, ks.length = ps.length → Vals (ps.map (·.2)) us →
    ∃ us', Vals (((ks.zip ps).map fun x => if x.1 = k then (x.2.1, v) else x.2).map (·.2)) us' ∧ (ents ks ps us).map (putAt k u) = ents ks ((ks.zip ps).map fun x => if x.1 = k then (x.2.1, v) else x.2) us'
  | [], _, _, _, _ => ⟨[], .nil, rfl⟩
  | k' :: ks, [], _, hl, _ => by cases hl
  | k' :: ks, (q, w) :: ps, u' :: us, hl, .cons r t => by
    obtain ⟨us', h1, h2⟩ := ents_put rv (k := k) (ks := ks) (ps := ps) (by simpa using hl) t
    by_cases e : k' = k
    · refine ⟨u :: us', ?_, ?_⟩
      · simp only [List.zip_cons_cons, List.map_cons, e, if_true]
        exact .cons rv h1
      · unfold ents at h2 ⊢
        simp only [List.zip_cons_cons, List.map_cons, e, if_true, h2, putAt]
    · refine ⟨u' :: us', ?_, ?_⟩
      · simp only [List.zip_cons_cons, List.map_cons, e, if_false]
        exact .cons r h1
      · unfold ents at h2 ⊢
        simp only [List.zip_cons_cons, List.map_cons, e, if_false, h2, putAt]
theorem ents_app {k : NKey} {q : Addr} {v : V} {u : Value} (rv : RelV v u) : ∀ {ks : List NKey} {ps : List (Addr × V)} {us : List Value}, ks.length = ps.length → Vals (ps.map (·.2)) us →
    Vals ((ps ++ [(q, v)]).map (·.2)) (us ++ [u]) ∧ ents ks ps us ++ [(k, q, u)] = ents (ks ++ [k]) (ps ++ [(q, v)]) (us ++ [u])
  | [], [], _, _, .nil => ⟨.cons rv .nil, rfl⟩
  | [], _ :: _, _, hl, _ => by cases hl
  | k' :: ks, [], _, hl, _ => by cases hl
  | k' :: ks, (q', w) :: ps, u' :: us, hl, .cons r t => by
    obtain ⟨h1, h2⟩ := ents_app rv (k := k) (q := q) (ks := ks) (ps := ps) (by simpa using hl) t
    refine ⟨.cons r h1, ?_⟩
    unfold ents at h2 ⊢
    simp only [List.map_cons, List.cons_append, List.zip_cons_cons, h2]
theorem ents_stored {k : NKey} {q : Addr} {v : V} {u : Value} {us : List Value} (rv : RelV v u) (hl : ks.length = ps.length) (hv : Vals (ps.map (·.2)) us) :
    ∃ us', Vals ((putN ks ps k q v).2.map (·.2)) us' ∧ storedH (ents ks ps us) k q u = ents (putN ks ps k q v).1 (putN ks ps k q v).2 us' := by
  have h := (atN_rel k hl hv).isSome_eq
  rw [Option.isSome_map] at h
  unfold putN storedH
  rw [← h]
  by_cases c : (atN ks ps k).isSome = true
  · rw [if_pos c, if_pos c]
    exact ents_put rv hl hv
  · rw [if_neg c, if_neg c]
    obtain ⟨h1, h2⟩ := ents_app rv (k := k) (q := q) hl hv
    exact ⟨_, h1, h2⟩
theorem putN_len {k : NKey} {q : Addr} {v : V} (hl : ks.length = ps.length) : (putN ks ps k q v).1.length = (putN ks ps k q v).2.length ∧ (putN ks ps k q v).1.length ≤ ks.length + 1 := by
  unfold putN
  split
  · simp [hl]
  · simp [hl]
end

section
variable {X : Cx} {pins : List (Addr × Obj)} {σ : L2.St} {H : Hp} {s : Shared} {p q : Addr} {ks : List NKey} {vs : List V} {ps : List (Addr × V)} {ep : Int} {k : NKey} {v y : V} {u r : Value} {A : Around} {E : Value → Shared → Prop}
theorem room (hu : A.units + 2 < cLine) : (nk X.prog X.w).room A.in1 := ⟨show A.units + 1 < cLine by omega, show A.units + 1 + 1 < cLine by omega⟩
theorem n_getItem {Q : Value → Shared → Prop} (hu : A.units + 2 < cLine) (I : Inv X pins σ H s) (e : H p = some (.ext (DicAt p ks vs))) (hv : vs = weave ps ep) (hk : Keys X.prog X.w s.heap ks ps) (hq : (nk X.prog X.w).is s.heap k q) (l : atN ks ps k = some v)
    (h : ∀ w' s', Inv X pins σ H s' → RelV v w' → Q w' s') : wpAny (model X.prog X.w) A (getItem (.ref p) (.ref q)) Q E s := by
  obtain ⟨us, hu', dd, hd, hz⟩ := dic_h (I.hok p _ e) hv hk
  obtain ⟨w', hw, rw'⟩ := RelO.some_of (v := v) (o := (atKey (ents ks ps us) k).map (·.2)) (by rw [← l]; exact atN_rel k (Paired.length hk) hu')
  obtain ⟨x, hp, hp2⟩ := Option.map_eq_some_iff.mp hw
  refine wpAny_getItem_heap (room hu) hq dd hp ?_
  rw [hp2]
  exact h w' _ (I.tok _) rw'
theorem n_in {Q : Value → Shared → Prop} (hu : A.units + 2 < cLine) (I : Inv X pins σ H s) (e : H p = some (.ext (DicAt p ks vs))) (hv : vs = weave ps ep) (hk : Keys X.prog X.w s.heap ks ps) (hq : (nk X.prog X.w).is s.heap k q)
    (h : ∀ s', Inv X pins σ H s' → Q (.bool (atN ks ps k).isSome) s') : wpAny (model X.prog X.w) A (compareOp .In (.ref q) (.ref p)) Q E s := by
  obtain ⟨us, hu', dd, hd, hz⟩ := dic_h (I.hok p _ e) hv hk
  refine wpAny_in_heap (room hu) hq hd dd ?_
  have z := (atN_rel k (Paired.length hk) hu').isSome_eq
  rw [Option.isSome_map] at z
  rw [← z]
  exact h _ (I.tok _)
theorem n_notIn {Q : Value → Shared → Prop} (hu : A.units + 2 < cLine) (I : Inv X pins σ H s) (e : H p = some (.ext (DicAt p ks vs))) (hv : vs = weave ps ep) (hk : Keys X.prog X.w s.heap ks ps) (hq : (nk X.prog X.w).is s.heap k q)
    (h : ∀ s', Inv X pins σ H s' → Q (.bool (!(atN ks ps k).isSome)) s') : wpAny (model X.prog X.w) A (compareOp .NotIn (.ref q) (.ref p)) Q E s := by
  obtain ⟨us, hu', dd, hd, hz⟩ := dic_h (I.hok p _ e) hv hk
  refine wpAny_notIn_heap (room hu) hq hd dd ?_
  have z := (atN_rel k (Paired.length hk) hu').isSome_eq
  rw [Option.isSome_map] at z
  rw [← z]
  exact h _ (I.tok _)
theorem n_get2 {Q : Value → Shared → Prop} (hu : A.units + 2 < cLine) (I : Inv X pins σ H s) (e : H p = some (.ext (DicAt p ks vs))) (hv : vs = weave ps ep) (hk : Keys X.prog X.w s.heap ks ps) (hq : (nk X.prog X.w).is s.heap k q) (rd : RelV y r)
    (h : ∀ w' s', Inv X pins σ H s' → RelV ((atN ks ps k).getD y) w' → Q w' s') : wpAny (model X.prog X.w) A (call (.builtin "dict.get") [.ref p, .ref q, r]) Q E s := by
  obtain ⟨us, hu', dd, hd, hz⟩ := dic_h (I.hok p _ e) hv hk
  refine call_meetsIn PySem.F.slot_dict_get dd.typeIs PySem.F.entry_dict_get (PySem.F.args_dict_get_3 _ _ _) (meetsH_dict_get_default (nk X.prog X.w) p q hd r) ⟨room hu, k, _, hq, dd, h _ _ (I.tok _) ?_⟩
  exact (atN_rel k (Paired.length hk) hu').getD rd
theorem dic_type (I : Inv X pins σ H s) (e : H p = some (.ext (DicAt p ks vs))) : s.TypeIs (.ref p) "dict" ∧ (∀ b, Value.ref p = .ref b → ∃ ob, s.heap.get? b = some ob ∧ ob.dict = none) ∧ (p == sysModules) = false := by
  obtain ⟨⟨o, es, us, e1, hx, hd, _, _, _, hs, _⟩, _⟩ := I.hok p _ e
  refine ⟨⟨o, e1, hx.1⟩, fun b z => ?_, hs⟩
  cases z
  exact ⟨o, e1, hx.2.1⟩
theorem n_setItem {Q : Unit → Shared → Prop} (hu : A.units + 2 < cLine) (I : Inv X pins σ H s) (e : H p = some (.ext (DicAt p ks vs))) (hv : vs = weave ps ep) (hk : Keys X.prog X.w s.heap ks ps) (hq : (nk X.prog X.w).is s.heap k q) (rv : RelV v r)
    (hl : ks.length < sizeLine) (h : ∀ (ep' : Nat) s', Inv X pins σ (upd H p (.ext (DicAt p (putN ks ps k q v).1 (weave (putN ks ps k q v).2 ep')))) s' → Q () s') :
    wpAny (model X.prog X.w) A (setItem (.ref p) (.ref q) r) Q E s := by
  obtain ⟨us, hu', dd, hd, hz⟩ := dic_h (I.hok p _ e) hv hk
  have hlen := Paired.length hk
  have hzx : (ents ks ps us).length ≤ sizeLine := by
    rw [← List.length_map (f := (·.1)), ents_fst (us := us) hlen hu']
    exact hz
  refine wpAny_setItem_heap (hsz := hzx) (room hu) hq dd fun h' dd' hs => ?_
  obtain ⟨o, es, ep', h1, h2, h3, h4, _, h5⟩ := dd'
  obtain ⟨us', g1, g2⟩ := ents_stored (k := k) (q := q) rv hlen hu'
  obtain ⟨l1, l2⟩ := putN_len (k := k) (q := q) (v := v) hlen
  refine h ep' _ (d_write I (by rw [e]; exact True.intro) hs ⟨o, h1⟩ (dic_ext ⟨o, es, us', h1, h2, ?_, ?_, ?_, ?_, hd, by omega⟩))
  · rw [unw_weave]; exact h3
  · rw [unw_weave]; exact g1
  · rw [unw_weave, h4, nk_entry, g2]
  · rw [← ents_fst (us := us') l1 g1, ← g2]; exact h5
/-- {} -/
def tDNewN : TE := fun _ H Q => ∀ p, H p = none → Q (.ref p) (upd H p (.ext (DicAt p [] (weave [] 0))))
theorem dn_empty {P : Program} {w : World} {H : Hp} (h : Heap) (hb : sysModules < h.objs.size) : ObjOk P w H (h.push { cls := .type "dict", data := .dict #[] }) h.objs.size (.ext (DicAt h.objs.size [] (weave [] 0))) :=
  dic_ext ⟨_, #[], [], Heap.get?_push_size _ rfl, ⟨rfl, rfl, rfl⟩, rfl, .nil, rfl, List.nodup_nil, beq_eq_false_iff_ne.mpr (Ne.symm (Nat.ne_of_lt hb)), Nat.zero_le _⟩
theorem pe_dnewN {pos : Pos} : PE X (.Dict [] [] pos) tDNewN := ⟨fun pins s σ H Q I h =>
  wpAny_Dict_empty ⟨.ref s.heap.objs.size, _, I.laid (a := s.heap.objs.size) (o := .ext (DicAt s.heap.objs.size [] (weave [] 0))) (t' := s.toks) (fun _ _ q => Heap.get?_push_of_some _ q) (Nat.le_refl _) (dn_empty s.heap I.big), rfl, h _ (I.hok.fresh (Nat.le_refl _))⟩⟩
/-- the keys of the dict at p, which stays as it is -/
def Itn (p : Addr) (ks : List NKey) (vs : List V) : It :=
  ⟨fun i H => H p = some (.ext (DicAt p ks vs)) ∧ i < ks.length, fun i H x H' => H' = H ∧ ∃ q v, (unw vs).1[i]? = some (q, v) ∧ x = .ref q, fun i H => H p = some (.ext (DicAt p ks vs)) ∧ ks.length ≤ i⟩
theorem dic_raw (I : Inv X pins σ H s) (e : H p = some (.ext (DicAt p ks vs))) (hl : ks.length = (unw vs).1.length) : ∃ (o : Obj) (es : Array DictEntry), (p == sysModules) = false ∧ s.heap.get? p = some o ∧ o.ExactDict ∧ o.data = .dict es (unw vs).2 ∧ es.size = ks.length ∧
    ∀ (i : Nat) (q : Addr) (v : V), (unw vs).1[i]? = some (q, v) → ∃ en : DictEntry, es[i]? = some en ∧ en.key = Value.ref q := by
  obtain ⟨⟨o, es, us, e1, hx, hd, hu, he, _, hs, _⟩, _⟩ := I.hok p _ e
  have hz : es.size = ks.length := by
    rw [← Array.length_toList, he, List.length_map, ← List.length_map (f := (·.1)), ents_fst (us := us) hl hu]
  refine ⟨o, es, hs, e1, hx, hd, hz, fun i q v hi => ?_⟩
  obtain ⟨u, hu1, _⟩ := hu.get (i := i) (x := v) (by rw [List.getElem?_map, hi]; rfl)
  have hlt : i < ks.length := by rw [hl]; exact (List.getElem?_eq_some_iff.mp hi).1
  obtain ⟨k, hk⟩ : ∃ k, ks[i]? = some k := ⟨ks[i], List.getElem?_eq_getElem hlt⟩
  refine ⟨nEntry (k, q, u), ?_, rfl⟩
  rw [← Array.getElem?_toList, he, List.getElem?_map]
  unfold ents
  have : (ks.zip (((unw vs).1.map (·.1)).zip us))[i]? = some (k, q, u) := by
    rw [List.getElem?_zip_eq_some]
    refine ⟨hk, ?_⟩
    rw [List.getElem?_zip_eq_some]
    exact ⟨by rw [List.getElem?_map, hi]; rfl, hu1⟩
  rw [this]
  rfl
theorem turn_n {P : Program} {w : World} {K : PySem.W.Frag} {tg : Expr} (it : Addr) (hl : ks.length = (unw vs).1.length) : Turn P w K tg (Itn p ks vs) [it] it (fun i h => h.IsKeyIter it p i ks.length (unw vs).2) where
  mem := by simp
  obj := fun i h st b hb => by
    have e : b = it := by simpa using hb
    subst e
    obtain ⟨oi, e, c, dd⟩ := st
    exact ⟨oi, e, fun v z => by rw [dd] at z; cases z⟩
  keep := fun i h h' st k => st.at fun oi e => k it (by simp) oi e
  item := by
    intro X hP hw hK hc i pins s σ H E I hf st hg
    subst hP hw hK
    obtain ⟨hd, hi⟩ := hg
    obtain ⟨f0, f1, f2, f3, f4, f5⟩ := hf it (by simp)
    obtain ⟨o, es, hs, hgd, hx, hdt, hsz, ent⟩ := dic_raw I hd hl
    obtain ⟨⟨q, v⟩, hkv⟩ : ∃ x, (unw vs).1[i]? = some x := ⟨(unw vs).1[i]'(by rw [← hl]; exact hi), List.getElem?_eq_getElem _⟩
    obtain ⟨en, hen, hkey⟩ := ent i q v hkv
    refine next_key_item st hgd hdt hsz hen fun h' st' sb => ?_
    have I1 : Inv X pins σ H { s with heap := h' } := I.turned (t' := s.toks) (fun b ob hb e => (sb.2 b hb).trans e) f0 f1 f3 f4 f5
    obtain ⟨oi, e, c, dd⟩ := id st'
    exact ⟨en.key, rfl, go_of (s := { s with heap := h' }) e c dd (by decide) ⟨.ref q, H, I1, hkey, ⟨rfl, q, v, hkv, rfl⟩, st', fun b hb => (hf b hb).1⟩⟩
  done := by
    intro X hP hw hK hc i pins s σ H E I hf st hg
    subst hP hw hK
    obtain ⟨hd, hi⟩ := hg
    obtain ⟨f0, f1, f2, f3, f4, f5⟩ := hf it (by simp)
    obtain ⟨o, es, hs, hgd, hx, hdt, hsz, ent⟩ := dic_raw I hd hl
    exact next_key_end (I.ok.hd hc) st hgd hdt hsz hi fun h' eb => ⟨rfl, I.turned (t' := s.toks) (fun b ob hb e => eb b ob hb e) f0 f1 f3 f4 f5⟩
  self := fun A i s Q E st h => by
    refine wpAny_pyIter_slot st.typeIs F.slot_dict_keyiterator_iter (wpAny_call_entry F.slot_dict_keyiterator_iter st.typeIs F.entry_dict_keyiterator_iter ?_ (F.args_dict_keyiterator_iter_1 _))
    show wpAny _ _ (ret (.ref it)) _ _ s
    exact wpAny_pure ⟨_, rfl, "dict_keyiterator", _, st.typeIs, F.slot_dict_keyiterator_next.lookup, h⟩
end
end NK

/-! OIb: how values and the store of OI lie in the hand layer's abstract heap; what a step keeps. -/
namespace OI
open PySem PySem.Spec PyProof.Rows L2

/-- a lambda that is in hand: its text, its function object, its code object, its name, the captured values -/
structure LamI where
  g : String
  f : Addr
  cd : Addr
  q : Str
  vs : List V
/-- the constants: the written part, classes by name, the caught exception, the lambda in hand, the makers' tables -/
structure Cn where
  K : PySem.W.Frag
  cls : String → Addr
  icl : String → Addr
  exn : Option (Addr × String)
  lam : Option LamI := none
  tb : List (Addr × Str) := []
/-- where the shared objects lie, whose a container is, the abstract heap -/
structure Wd where
  am : List Addr
  ow : Addr → Option Pl
  H : Hp

def KL (K : PySem.W.Frag) (a : Addr) (xs : List V) : Prop :=
  ∃ (o : Obj) (its : Array Value) (n : Nat), K.lookup a = some o ∧ o.cls = .type "list" ∧ o.dict = none ∧ o.data = .seq its n ∧ its.size ≤ sizeLine ∧ Vals xs its.toList
def KT (K : PySem.W.Frag) (a : Addr) (xs : List V) : Prop :=
  ∃ (o : Obj) (its : Array Value) (n : Nat), K.lookup a = some o ∧ o.cls = .type "tuple" ∧ o.data = .seq its n ∧ its.size ≤ sizeLine ∧ Vals xs its.toList
/-- a list, a tuple that stays as it is -/
def FzL (c : Cn) (S : Wd) (a : Addr) (xs : List V) : Prop := (Rd S.H a (.lst xs) ∧ S.ow a = none) ∨ KL c.K a xs
def FzT (c : Cn) (S : Wd) (a : Addr) (xs : List V) : Prop := (Rd S.H a (.tup xs) ∧ S.ow a = none) ∨ KT c.K a xs
theorem FzL.sq {c : Cn} {S : Wd} {a : Addr} {xs : List V} (h : FzL c S a xs) : SqL c.K S.H a xs := h.elim (fun h => .inl h.1) .inr
theorem FzT.sq {c : Cn} {S : Wd} {a : Addr} {xs : List V} (h : FzT c S a xs) : SqT c.K S.H a xs := h.elim (fun h => .inl h.1) .inr

def keyOf : D → Key
  | .int i => .inl i
  | .str x => .inr x
  | _ => .inl 0
def intOf : D → Int
  | .int i => i
  | _ => 0
def inKey : D → List Int
  | .tup xs => xs.map intOf
  | _ => []
/-- a key that is a tuple of tuples of ints -/
def nKey : D → NK.NKey
  | .tup xs => xs.map inKey
  | _ => []
/-- a dict: its keys, its values -/
def dHO (c : Cn) (p : Addr) (t : Bool) (ks : List D) (vs : List V) : HO :=
  if t then .ext (NK.DicAt p (ks.map nKey) vs) else .dK ((ks.zip vs).map fun q => (keyOf q.1, q.2))

mutual
def RepD (c : Cn) (S : Wd) : D → V → Prop
  | .non, v => v = .non
  | .bl b, v => v = .bl b
  | .int i, v => v = .int i
  | .str x, v => v = .str x
  | .tup xs, v => ∃ p vs, v = .ref p ∧ FzT c S p vs ∧ RepDs c S xs vs
  | .lst xs, v => ∃ p vs, v = .ref p ∧ S.H p = some (.lst vs) ∧ S.ow p = none ∧ RepDs c S xs vs
  | .dic t kvs, v => ∃ p vs, v = .ref p ∧ S.H p = some (dHO c p t (kvs.map (·.1)) vs) ∧ S.ow p = none ∧ RepKs c S t kvs vs
  | .scr ns, v => ∃ p, v = .ref p ∧ FzL c S p (ns.map V.int)
  | .loc n, v => ∃ a, v = .ref a ∧ S.am[n]? = some a
  | .exn s, v => ∃ a, v = .ref a ∧ c.exn = some (a, s)
  | .lam g ds, v => ∃ L, c.lam = some L ∧ L.g = g ∧ v = .ref L.f ∧ S.H L.cd = some (LamX.CodeO L.cd L.q) ∧ S.ow L.cd = none ∧ RepDs c S ds L.vs
def RepDs (c : Cn) (S : Wd) : List D → List V → Prop
  | [], vs => vs = []
  | d :: ds, vs => ∃ v r, vs = v :: r ∧ RepD c S d v ∧ RepDs c S ds r
def RepKs (c : Cn) (S : Wd) (t : Bool) : List (D × D) → List V → Prop
  | [], vs => if t then ∃ ep : Int, vs = [.int ep] else vs = []
  | (k, d) :: ds, vs => keyOk t k = true ∧ if t then ∃ q v r, vs = .ref q :: v :: r ∧ RepD c S k (.ref q) ∧ RepD c S d v ∧ RepKs c S t ds r else ∃ v r, vs = v :: r ∧ RepD c S d v ∧ RepKs c S t ds r
end
theorem RepKs.nilF {c : Cn} {S : Wd} {vs : List V} : RepKs c S false [] vs ↔ vs = [] := Iff.rfl
theorem RepKs.consF {c : Cn} {S : Wd} {k d : D} {ds : List (D × D)} {vs : List V} : RepKs c S false ((k, d) :: ds) vs ↔ ∃ v r, vs = v :: r ∧ keyOk false k = true ∧ RepD c S d v ∧ RepKs c S false ds r :=
  ⟨fun ⟨h0, v, r, e, h1, h2⟩ => ⟨v, r, e, h0, h1, h2⟩, fun ⟨v, r, e, h0, h1, h2⟩ => ⟨h0, v, r, e, h1, h2⟩⟩

/-- what is frozen stays; shared objects stay where they are -/
structure Fr (S S' : Wd) : Prop where
  keep : ∀ a o, S.H a = some o → S.ow a = none → (∀ ps, o ≠ .tbl ps) → S'.H a = some o ∧ S'.ow a = none
  am : ∃ more, S'.am = S.am ++ more
theorem Fr.refl (S : Wd) : Fr S S := ⟨fun _ _ h1 h2 _ => ⟨h1, h2⟩, [], by simp⟩
theorem Fr.trans {S S1 S2 : Wd} (a : Fr S S1) (b : Fr S1 S2) : Fr S S2 :=
  ⟨fun p o h1 h2 hn => b.keep p o (a.keep p o h1 h2 hn).1 (a.keep p o h1 h2 hn).2 hn, by
    obtain ⟨m, e⟩ := a.am
    obtain ⟨m2, e2⟩ := b.am
    exact ⟨m ++ m2, by rw [e2, e, List.append_assoc]⟩⟩
theorem Fr.amAt {S S' : Wd} (f : Fr S S') {n : Nat} {a : Addr} (h : S.am[n]? = some a) : S'.am[n]? = some a := by
  obtain ⟨m, e⟩ := f.am
  rw [e, List.getElem?_append_left (List.getElem?_eq_some_iff.mp h).1]
  exact h
theorem Fr.rd {S S' : Wd} (f : Fr S S') {a : Addr} {u : HO} (h : Rd S.H a u) (ho : S.ow a = none) (hn : ∀ ps, u ≠ .tbl ps) : Rd S'.H a u ∧ S'.ow a = none := by
  rcases h with h | ⟨o, h⟩
  · exact ⟨.inl (f.keep a _ h ho hn).1, (f.keep a _ h ho hn).2⟩
  · exact ⟨.inr ⟨o, (f.keep a _ h ho fun _ z => nomatch z).1⟩, (f.keep a _ h ho fun _ z => nomatch z).2⟩
theorem FzL.mono {c : Cn} {S S' : Wd} (f : Fr S S') {a : Addr} {xs : List V} (h : FzL c S a xs) : FzL c S' a xs := h.elim (fun h => .inl (f.rd h.1 h.2 fun _ z => nomatch z)) .inr
theorem FzT.mono {c : Cn} {S S' : Wd} (f : Fr S S') {a : Addr} {xs : List V} (h : FzT c S a xs) : FzT c S' a xs := h.elim (fun h => .inl (f.rd h.1 h.2 fun _ z => nomatch z)) .inr

theorem dHO_nt {c : Cn} {p : Addr} {t : Bool} {ks : List D} {vs : List V} : ∀ ps, dHO c p t ks vs ≠ .tbl ps := fun ps z => by
  unfold dHO at z
  split at z <;> cases z
theorem codeO_nt {p : Addr} {q : Str} : ∀ ps, LamX.CodeO p q ≠ .tbl ps := fun ps z => by
  unfold LamX.CodeO at z
  cases z
mutual
theorem RepD.mono {c : Cn} {S S' : Wd} (f : Fr S S') : ∀ {d : D} {v : V}, RepD c S d v → RepD c S' d v
  | .non, _, h => h
  | .bl _, _, h => h
  | .int _, _, h => h
  | .str _, _, h => h
  | .tup xs, _, ⟨p, vs, e, h1, h2⟩ => ⟨p, vs, e, h1.mono f, RepDs.mono f h2⟩
  | .lst xs, _, ⟨p, vs, e, h1, h2, h3⟩ => ⟨p, vs, e, (f.keep p _ h1 h2 fun _ z => nomatch z).1, (f.keep p _ h1 h2 fun _ z => nomatch z).2, RepDs.mono f h3⟩
  | .dic t kvs, _, ⟨p, vs, e, h1, h2, h3⟩ => ⟨p, vs, e, (f.keep p _ h1 h2 dHO_nt).1, (f.keep p _ h1 h2 dHO_nt).2, RepKs.mono f h3⟩
  | .scr _, _, ⟨p, e, h⟩ => ⟨p, e, h.mono f⟩
  | .loc _, _, ⟨a, e, h⟩ => ⟨a, e, f.amAt h⟩
  | .exn _, _, h => h
  | .lam _ _, _, ⟨L, e, h1, h2, h3, h4, h5⟩ => ⟨L, e, h1, h2, (f.keep _ _ h3 h4 codeO_nt).1, (f.keep _ _ h3 h4 codeO_nt).2, RepDs.mono f h5⟩
theorem RepDs.mono {c : Cn} {S S' : Wd} (f : Fr S S') : ∀ {d : List D} {v : List V}, RepDs c S d v → RepDs c S' d v
  | [], _, h => h
  | d :: ds, _, ⟨v, r, e, h1, h2⟩ => ⟨v, r, e, RepD.mono f h1, RepDs.mono f h2⟩
theorem RepKs.mono {c : Cn} {S S' : Wd} (f : Fr S S') : ∀ {t : Bool} {d : List (D × D)} {v : List V}, RepKs c S t d v → RepKs c S' t d v
  | _, [], _, h => h
  | false, (k, d) :: ds, _, ⟨h0, v, r, e, h1, h2⟩ => ⟨h0, v, r, e, RepD.mono f h1, RepKs.mono f h2⟩
  | true, (k, d) :: ds, _, ⟨h0, q, v, r, e, hk, h1, h2⟩ => ⟨h0, q, v, r, e, RepD.mono f hk, RepD.mono f h1, RepKs.mono f h2⟩
end
theorem RepDs.length {c : Cn} {S : Wd} : ∀ {ds : List D} {vs : List V}, RepDs c S ds vs → vs.length = ds.length
  | [], _, h => by rw [show _ = [] from h]; rfl
  | d :: ds, _, ⟨v, r, e, _, h⟩ => by rw [e, List.length_cons, List.length_cons, RepDs.length h]
theorem RepKs.length {c : Cn} {S : Wd} : ∀ {ds : List (D × D)} {vs : List V}, RepKs c S false ds vs → vs.length = ds.length
  | [], _, h => by rw [show _ = [] from h]; rfl
  | (_, d) :: ds, _, ⟨_, v, r, e, _, h⟩ => by rw [e, List.length_cons, List.length_cons, RepKs.length h]
theorem RepDs.get {c : Cn} {S : Wd} : ∀ {ds : List D} {vs : List V} {i : Nat} {d : D}, RepDs c S ds vs → ds[i]? = some d → ∃ v, vs[i]? = some v ∧ RepD c S d v
  | [], _, _, _, _, e => by simp at e
  | d :: ds, _, 0, _, ⟨v, r, e, h, _⟩, e1 => by
    subst e
    simp at e1
    subst e1
    exact ⟨v, rfl, h⟩
  | d :: ds, _, i + 1, _, ⟨v, r, e, _, h⟩, e1 => by
    subst e
    simp at e1
    obtain ⟨v', e2, h2⟩ := RepDs.get h e1
    exact ⟨v', by simpa using e2, h2⟩
theorem RepDs.getv {c : Cn} {S : Wd} : ∀ {ds : List D} {vs : List V} {i : Nat} {v : V}, RepDs c S ds vs → vs[i]? = some v → ∃ d, ds[i]? = some d ∧ RepD c S d v
  | [], _, _, _, h, e => by rw [show _ = [] from h] at e; simp at e
  | d :: ds, _, 0, _, ⟨v, r, e, h, _⟩, e1 => by
    subst e
    simp at e1
    subst e1
    exact ⟨d, rfl, h⟩
  | d :: ds, _, i + 1, _, ⟨v, r, e, _, h⟩, e1 => by
    subst e
    simp at e1
    obtain ⟨d', e2, h2⟩ := RepDs.getv h e1
    exact ⟨d', by simpa using e2, h2⟩
theorem RepDs.append {c : Cn} {S : Wd} : ∀ {ds es : List D} {vs ws : List V}, RepDs c S ds vs → RepDs c S es ws → RepDs c S (ds ++ es) (vs ++ ws)
  | [], _, _, _, h, h2 => by rw [show _ = [] from h]; exact h2
  | d :: ds, _, _, _, ⟨v, r, e, h, h1⟩, h2 => by
    subst e
    exact ⟨v, _, rfl, h, RepDs.append h1 h2⟩
theorem RepDs.take {c : Cn} {S : Wd} : ∀ {ds : List D} {vs : List V} (n : Nat), RepDs c S ds vs → RepDs c S (ds.take n) (vs.take n)
  | _, _, 0, _ => rfl
  | [], _, n + 1, h => by rw [show _ = [] from h]; rfl
  | d :: ds, _, n + 1, ⟨v, r, e, h, h1⟩ => by
    subst e
    exact ⟨v, _, rfl, h, RepDs.take n h1⟩
theorem RepDs.drop {c : Cn} {S : Wd} : ∀ {ds : List D} {vs : List V} (n : Nat), RepDs c S ds vs → RepDs c S (ds.drop n) (vs.drop n)
  | _, _, 0, h => h
  | [], _, n + 1, h => by rw [show _ = [] from h]; rfl
  | d :: ds, _, n + 1, ⟨v, r, e, h, h1⟩ => by
    subst e
    exact RepDs.drop n h1
theorem RepDs.set {c : Cn} {S : Wd} {d : D} {v : V} (hd : RepD c S d v) : ∀ {ds : List D} {vs : List V} (i : Nat), RepDs c S ds vs → RepDs c S (ds.set i d) (vs.set i v)
  | [], _, _, h => by rw [show _ = [] from h]; rfl
  | e :: ds, _, 0, ⟨w, r, q, h, h1⟩ => by
    subst q
    exact ⟨v, _, rfl, hd, h1⟩
  | e :: ds, _, i + 1, ⟨w, r, q, h, h1⟩ => by
    subst q
    exact ⟨w, _, rfl, h, RepDs.set hd i h1⟩
theorem RepDs.reverse {c : Cn} {S : Wd} : ∀ {ds : List D} {vs : List V}, RepDs c S ds vs → RepDs c S ds.reverse vs.reverse
  | [], _, h => by rw [show _ = [] from h]; rfl
  | d :: ds, _, ⟨w, r, q, h, h1⟩ => by
    subst q
    rw [List.reverse_cons, List.reverse_cons]
    exact RepDs.append (RepDs.reverse h1) ⟨w, [], rfl, h, rfl⟩
theorem RepDs.ints {c : Cn} {S : Wd} : ∀ ns : List Int, RepDs c S (ns.map .int) (ns.map V.int)
  | [] => rfl
  | n :: ns => ⟨_, _, rfl, rfl, RepDs.ints ns⟩
theorem RepDs.strs {c : Cn} {S : Wd} : ∀ ns : List Str, RepDs c S (ns.map .str) (ns.map V.str)
  | [] => rfl
  | n :: ns => ⟨_, _, rfl, rfl, RepDs.strs ns⟩
theorem RepDs.flatten {c : Cn} {S : Wd} {ds : List D} {vs : List V} (h : RepDs c S ds vs) : ∀ k : Nat, RepDs c S (List.replicate k ds).flatten (List.replicate k vs).flatten
  | 0 => rfl
  | k + 1 => by
    rw [List.replicate_succ, List.replicate_succ, List.flatten_cons, List.flatten_cons]
    exact RepDs.append h (RepDs.flatten h k)

/-! ### containers of their own, fields, objects -/
def RepM (c : Cn) (S : Wd) (pl : Pl) : M → V → Prop
  | .val d, v => RepD c S d v
  | .ol xs, v => ∃ p vs, v = .ref p ∧ S.H p = some (.lst vs) ∧ S.ow p = some pl ∧ RepDs c S xs vs
  | .od t kvs, v => ∃ p vs, v = .ref p ∧ S.H p = some (dHO c p t (kvs.map (·.1)) vs) ∧ S.ow p = some pl ∧ RepKs c S t kvs vs
/-- whose it ever is, to be read -/
def RepV (c : Cn) (S : Wd) : M → V → Prop
  | .val d, v => RepD c S d v
  | .ol xs, v => ∃ p vs, v = .ref p ∧ S.H p = some (.lst vs) ∧ RepDs c S xs vs
  | .od t kvs, v => ∃ p vs, v = .ref p ∧ S.H p = some (dHO c p t (kvs.map (·.1)) vs) ∧ RepKs c S t kvs vs
theorem RepM.view {c : Cn} {S : Wd} {pl : Pl} : ∀ {m : M} {v : V}, RepM c S pl m v → RepV c S m v
  | .val _, _, h => h
  | .ol _, _, ⟨p, vs, e, h, _, r⟩ => ⟨p, vs, e, h, r⟩
  | .od _ _, _, ⟨p, vs, e, h, _, r⟩ => ⟨p, vs, e, h, r⟩
def RepF (c : Cn) (S : Wd) (n : Nat) : List (String × M) → List (Str × V) → Prop
  | [], fs => fs = []
  | (f, m) :: r, fs => ∃ v q, fs = (Str.ofString f, v) :: q ∧ RepM c S (.fld n f) m v ∧ RepF c S n r q
def RepO (c : Cn) (S : Wd) (n : Nat) (a : Addr) : SObj → Prop
  | .ins k fs => ∃ dx fs', S.H a = some (.ins (c.icl k) dx fs') ∧ RepF c S n fs fs' ∧ (fs.map (·.1)).Nodup
  | .lst xs => ∃ vs, S.H a = some (.lst vs) ∧ RepDs c S xs vs
  | .dic t kvs => ∃ vs, S.H a = some (dHO c a t (kvs.map (·.1)) vs) ∧ RepKs c S t kvs vs

/-- lists, tuples and dicts have their largest length -/
def HLn (H : Hp) : Prop := ∀ a, (∀ xs, H a = some (.lst xs) → xs.length ≤ 16777216) ∧ (∀ xs, H a = some (.tup xs) → xs.length ≤ 16777216) ∧ ∀ xs, H a = some (.dK xs) → xs.length ≤ 16777216
/-- .. and the tables of code objects are there -/
structure HL (c : Cn) (H : Hp) : Prop where
  n : HLn H
  t : LamX.Tabs c.tb H

/-- something, no table and no code object -/
def Dm (a : Addr) (x : Option HO) : Prop := ∃ o, x = some o ∧ (∀ ps, o ≠ .tbl ps) ∧ ∀ q, o ≠ LamX.CodeO a q
theorem Dm.ne {a : Addr} {x : Option HO} (h : Dm a x) : x ≠ none := fun z => by
  obtain ⟨o, e, _⟩ := h
  rw [z] at e
  cases e
structure RlS (c : Cn) (S : Wd) (s : Store) : Prop where
  len : S.am.length = s.length
  obj : ∀ n e, s[n]? = some e → ∃ a, S.am[n]? = some a ∧ S.ow a = some (.obj n) ∧ RepO c S n a e.o
  dom : ∀ a, S.ow a ≠ none → Dm a (S.H a)
  src : ∀ a q n, S.ow a = some q → q.src = some n → n < s.length
  hl : HL c S.H
structure Rl (c : Cn) (S : Wd) (e : Env) (s : Store) (σ : L2.St) : Prop extends RlS c S s where
  elen : e.length = σ.length
  slot : ∀ i m, e[i]? = some (some m) → ∃ v, σ[i]? = some (some v) ∧ RepM c S (.slot i) m v

/-! ### steps -/
def VerS (s s' : Store) : Prop := ∀ (n : Nat) (e : Ent), s[n]? = some e → ∃ e' : Ent, s'[n]? = some e' ∧ e.v ≤ e'.v ∧ (e.v = e'.v → e' = e)
theorem VerS.refl (s : Store) : VerS s s := fun _ e h => ⟨e, h, Nat.le_refl _, fun _ => rfl⟩
theorem VerS.trans {s s1 s2 : Store} (a : VerS s s1) (b : VerS s1 s2) : VerS s s2 := fun n e h => by
  obtain ⟨e1, h1, l1, q1⟩ := a n e h
  obtain ⟨e2, h2, l2, q2⟩ := b n e1 h1
  refine ⟨e2, h2, by omega, fun z => ?_⟩
  have z1 : e.v = e1.v := by omega
  have z2 : e1.v = e2.v := by omega
  rw [q2 z2, q1 z1]
theorem VerS.len {s s' : Store} (a : VerS s s') : s.length ≤ s'.length := by
  rcases Nat.lt_or_ge s'.length s.length with h | h
  · have e := a s'.length _ (List.getElem?_eq_getElem h)
    obtain ⟨e', h', _⟩ := e
    rw [List.getElem?_eq_none (Nat.le_refl _)] at h'
    cases h'
  · exact h
/-- what belongs to shared objects: unchanged where the store's entry is; others' containers: unchanged -/
structure StC (S S' : Wd) (s s' : Store) : Prop extends Fr S S' where
  ver : VerS s s'
  ent : ∀ n e, s[n]? = some e → s'[n]? = some e → ∀ a p, S.ow a = some p → p.src = some n → S'.H a = S.H a ∧ S'.ow a = some p
  oth : ∀ a, S.ow a = some .oth → S'.H a = S.H a ∧ S'.ow a = some .oth
theorem StC.refl (S : Wd) (s : Store) : StC S S s s := ⟨Fr.refl S, VerS.refl s, fun _ _ _ _ _ _ h _ => ⟨rfl, h⟩, fun _ h => ⟨rfl, h⟩⟩
theorem StC.trans {S S1 S2 : Wd} {s s1 s2 : Store} (a : StC S S1 s s1) (b : StC S1 S2 s1 s2) : StC S S2 s s2 where
  toFr := a.toFr.trans b.toFr
  ver := a.ver.trans b.ver
  ent := fun n e h h2 p q hp hq => by
    obtain ⟨e1, h1, l1, q1⟩ := a.ver n e h
    obtain ⟨e2, h2', l2, q2⟩ := b.ver n e1 h1
    rw [h2] at h2'
    cases h2'
    have z : e.v = e1.v := by omega
    have z1 := q1 z
    subst z1
    obtain ⟨x1, x2⟩ := a.ent n _ h h1 p q hp hq
    obtain ⟨y1, y2⟩ := b.ent n _ h1 h2 p q x2 hq
    exact ⟨y1.trans x1, y2⟩
  oth := fun p hp => by
    obtain ⟨x1, x2⟩ := a.oth p hp
    obtain ⟨y1, y2⟩ := b.oth p x2
    exact ⟨y1.trans x1, y2⟩
/-- no table -/
def NoTb (x : Option HO) : Prop := ∀ ps, x ≠ some (.tbl ps)
theorem noTb {x : Option HO} {o : HO} (h : x = some o) (n : ∀ ps, o ≠ .tbl ps) : NoTb x := fun ps z => by rw [h] at z; exact n ps (Option.some.inj z)
/-- an expression's step -/
structure StE (S S' : Wd) (s s' : Store) : Prop extends StC S S' s s' where
  slot : ∀ a i, S.ow a = some (.slot i) → S'.H a = S.H a ∧ (S'.ow a = some (.slot i) ∨ (S'.ow a = none ∧ NoTb (S'.H a)))
theorem StE.refl (S : Wd) (s : Store) : StE S S s s := ⟨StC.refl S s, fun _ _ h => ⟨rfl, .inl h⟩⟩

theorem RepF.view {c : Cn} {S : Wd} {n : Nat} : ∀ {fs : List (String × M)} {gs : List (Str × V)}, RepF c S n fs gs → gs.map (·.1) = fs.map fun p => Str.ofString p.1
  | [], _, h => by rw [show _ = [] from h]; rfl
  | (f, m) :: r, _, ⟨v, q, e, _, h⟩ => by
    subst e
    simp [RepF.view h]
end OI

/-! OIb2: what is kept by a step: slots, fields, shared objects; freezing; reading what another's is. -/
namespace OI
open PySem PySem.Spec PyProof.Rows L2
variable {c : Cn} {S S' S1 : Wd} {s s' : Store} {e : Env} {σ : L2.St}

theorem RepM.step {pl : Pl} (f : Fr S S') {m : M} {v : V} (h : RepM c S pl m v) (k : ∀ p, S.ow p = some pl → S'.H p = S.H p ∧ S'.ow p = some pl) : RepM c S' pl m v := by
  cases m with
  | val d => exact RepD.mono f h
  | ol xs =>
    obtain ⟨p, vs, e, h1, h2, h3⟩ := h
    exact ⟨p, vs, e, by rw [(k p h2).1]; exact h1, (k p h2).2, RepDs.mono f h3⟩
  | od t kvs =>
    obtain ⟨p, vs, e, h1, h2, h3⟩ := h
    exact ⟨p, vs, e, by rw [(k p h2).1]; exact h1, (k p h2).2, RepKs.mono f h3⟩
theorem RepF.step {n : Nat} (f : Fr S S') (k : ∀ p g, S.ow p = some (.fld n g) → S'.H p = S.H p ∧ S'.ow p = some (.fld n g)) : ∀ {fs : List (String × M)} {gs : List (Str × V)}, RepF c S n fs gs → RepF c S' n fs gs
  | [], _, h => h
  | (g, m) :: r, _, ⟨v, q, e, h1, h2⟩ => ⟨v, q, e, h1.step f (fun p hp => k p g hp), RepF.step f k h2⟩
theorem RepO.step {n : Nat} {a : Addr} {o : SObj} (f : Fr S S') (ha : S'.H a = S.H a) (k : ∀ p g, S.ow p = some (.fld n g) → S'.H p = S.H p ∧ S'.ow p = some (.fld n g)) (h : RepO c S n a o) : RepO c S' n a o := by
  cases o with
  | ins k' fs =>
    obtain ⟨dx, fs', h1, h2, h3⟩ := h
    exact ⟨dx, fs', by rw [ha]; exact h1, h2.step f k, h3⟩
  | lst xs =>
    obtain ⟨vs, h1, h2⟩ := h
    exact ⟨vs, by rw [ha]; exact h1, h2.mono f⟩
  | dic t kvs =>
    obtain ⟨vs, h1, h2⟩ := h
    exact ⟨vs, by rw [ha]; exact h1, h2.mono f⟩
theorem RlS.step (R : RlS c S s) (f : Fr S S') (k : ∀ p q n, S.ow p = some q → q.src = some n → S'.H p = S.H p ∧ S'.ow p = some q) (am : S'.am = S.am) (dom : ∀ a, S'.ow a ≠ none → Dm a (S'.H a)) (src : ∀ a q n, S'.ow a = some q → q.src = some n → n < s.length) (hl : HL c S'.H) : RlS c S' s where
  len := by rw [am]; exact R.len
  obj := fun n e h => by
    obtain ⟨a, h1, h2, h3⟩ := R.obj n e h
    exact ⟨a, by rw [am]; exact h1, (k a _ n h2 rfl).2, h3.step f (k a _ n h2 rfl).1 fun p g hp => k p _ n hp rfl⟩
  dom := dom
  src := src
  hl := hl
theorem Rl.step (R : Rl c S e s σ) (f : Fr S S') (k : ∀ p q n, S.ow p = some q → q.src = some n → S'.H p = S.H p ∧ S'.ow p = some q) (ks : ∀ p i, S.ow p = some (.slot i) → S'.H p = S.H p ∧ S'.ow p = some (.slot i)) (am : S'.am = S.am)
    (dom : ∀ a, S'.ow a ≠ none → Dm a (S'.H a)) (src : ∀ a q n, S'.ow a = some q → q.src = some n → n < s.length) (hl : HL c S'.H) : Rl c S' e s σ where
  toRlS := R.toRlS.step f k am dom src hl
  elen := R.elen
  slot := fun i m h => by
    obtain ⟨v, h1, h2⟩ := R.slot i m h
    exact ⟨v, h1, h2.step f fun p hp => ks p i hp⟩

/-- something new is laid: frozen at once, or a container that nobody has yet -/
structure Al (c : Cn) (S S' : Wd) : Prop where
  am : S'.am = S.am
  old : ∀ a o, S.H a = some o → S'.H a = some o ∧ S'.ow a = S.ow a
  new : ∀ a, S.H a = none → S'.ow a = none ∨ S'.ow a = some .tmp
  dom : ∀ a, S'.ow a ≠ none → Dm a (S'.H a)
  hl : HL c S'.H
theorem Al.fr (h : Al c S S') : Fr S S' := ⟨fun a o h1 h2 _ => ⟨(h.old a o h1).1, by rw [(h.old a o h1).2, h2]⟩, [], by rw [h.am, List.append_nil]⟩
theorem Al.at (h : Al c S S') (dom : ∀ a, S.ow a ≠ none → Dm a (S.H a)) {p : Addr} {q : Pl} (hp : S.ow p = some q) : S'.H p = S.H p ∧ S'.ow p = some q := by
  have h1 := (dom p (by rw [hp]; simp)).ne
  cases e : S.H p with
  | none => exact absurd e h1
  | some o => exact ⟨(h.old p o e).1, by rw [(h.old p o e).2, hp]⟩
theorem Al.rl (h : Al c S S') (R : Rl c S e s σ) : Rl c S' e s σ := R.step h.fr (fun p q n hp _ => h.at R.dom hp) (fun p i hp => h.at R.dom hp) h.am h.dom (fun a q n h1 h2 => by
    cases e : S.H a with
    | none =>
      rcases h.new a e with z | z
      · rw [z] at h1; cases h1
      · rw [z] at h1; cases h1; cases h2
    | some o => exact R.src a q n (by rw [← (h.old a o e).2]; exact h1) h2) h.hl
theorem Al.ste (h : Al c S S') (dom : ∀ a, S.ow a ≠ none → Dm a (S.H a)) (s : Store) : StE S S' s s where
  toFr := h.fr
  ver := VerS.refl s
  ent := fun n e _ _ a p hp _ => h.at dom hp
  oth := fun a hp => h.at dom hp
  slot := fun a i hp => ⟨(h.at dom hp).1, .inl (h.at dom hp).2⟩
theorem Al.refl (R : RlS c S s) : Al c S S := ⟨rfl, fun _ _ h => ⟨h, rfl⟩, fun a h => .inl (by
  cases e : S.ow a with
  | none => rfl
  | some q => exact absurd h (R.dom a (by rw [e]; simp)).ne), R.dom, R.hl⟩
theorem StE.trans {S2 : Wd} {s1 s2 : Store} (dom : ∀ a, S.ow a ≠ none → Dm a (S.H a)) (a : StE S S1 s s1) (b : StE S1 S2 s1 s2) : StE S S2 s s2 where
  toStC := a.toStC.trans b.toStC
  slot := fun p i hp => by
    obtain ⟨x1, x2⟩ := a.slot p i hp
    rcases x2 with x2 | x2
    · obtain ⟨y1, y2⟩ := b.slot p i x2
      exact ⟨y1.trans x1, y2⟩
    · cases e : S.H p with
      | none => exact absurd e (dom p (by rw [hp]; simp)).ne
      | some o =>
        have h1 : S1.H p = some o := x1.trans e
        obtain ⟨y1, y2⟩ := b.keep p o h1 x2.1 fun ps z => x2.2 ps (by rw [h1, z])
        exact ⟨y1, .inr ⟨y2, fun ps => by rw [y1, ← h1]; exact x2.2 ps⟩⟩

/-! ### ownership alone is changed -/
/-- p is q's now -/
def Wd.lab (S : Wd) (p : Addr) (q : Option Pl) : Wd := { S with ow := fun a => if a = p then q else S.ow a }
theorem lab_same {p : Addr} {q : Option Pl} : (S.lab p q).ow p = q := if_pos rfl
theorem lab_ne {p a : Addr} {q : Option Pl} (h : a ≠ p) : (S.lab p q).ow a = S.ow a := if_neg h
/-- a container of one's own is frozen -/
theorem lab_fr {p : Addr} {q : Option Pl} (h : S.ow p ≠ none) : Fr S (S.lab p q) := ⟨fun a o h1 h2 _ => ⟨h1, by
  rw [lab_ne (fun z => h (by rw [← z]; exact h2))]
  exact h2⟩, [], by simp [Wd.lab]⟩
theorem lab_dom {p : Addr} {q : Option Pl} (dom : ∀ a, S.ow a ≠ none → Dm a (S.H a)) (h : S.ow p ≠ none) : ∀ a, (S.lab p q).ow a ≠ none → Dm a ((S.lab p q).H a) := fun a ha => by
  by_cases e : a = p
  · subst e; exact dom _ h
  · rw [lab_ne e] at ha; exact dom _ ha
theorem lab_src {p : Addr} {q : Option Pl} (src : ∀ a x n, S.ow a = some x → x.src = some n → n < s.length) (h : ∀ x, q = some x → x.src = none) : ∀ a x n, (S.lab p q).ow a = some x → x.src = some n → n < s.length := fun a x n h1 h2 => by
  by_cases z : a = p
  · subst z
    rw [lab_same] at h1
    rw [h x h1] at h2
    cases h2
  · rw [lab_ne z] at h1
    exact src a x n h1 h2
/-- the tmp at p becomes frozen, or another's -/
theorem lab_tmp {p : Addr} {q : Option Pl} (R : Rl c S e s σ) (h : S.ow p = some .tmp) (hq : ∀ x, q = some x → x.src = none := by intro x hx; cases hx <;> rfl) : Rl c (S.lab p q) e s σ :=
  have ne : ∀ {a : Addr} {x : Pl}, S.ow a = some x → x ≠ .tmp → a ≠ p := fun h1 h2 z => by subst z; rw [h] at h1; cases h1; exact h2 rfl
  R.step (lab_fr (by rw [h]; simp)) (fun a x n hx hn => ⟨rfl, by rw [lab_ne (ne hx (fun z => by subst z; cases hn))]; exact hx⟩) (fun a i hx => ⟨rfl, by rw [lab_ne (ne hx (by simp))]; exact hx⟩) rfl (lab_dom R.dom (by rw [h]; simp)) (lab_src R.src hq) R.hl
/-- where a slot's container stands -/
theorem slot_of {i : Nat} {m : M} (R : Rl c S e s σ) (h : e[i]? = some (some m)) : ∃ v, σ[i]? = some (some v) ∧ RepM c S (.slot i) m v := R.slot i m h
/-- the slot's container is frozen in its place -/
theorem Rl.frzSlot {i : Nat} {m : M} {v : V} (R : Rl c S e s σ) (hm : m.isVal = false) (hv : σ[i]? = some (some v)) (h : RepM c S (.slot i) m v) (hi : i < e.length) :
    ∃ S', Rl c S' (e.set i (some (.val m.frz))) s σ ∧ S'.H = S.H ∧ RepD c S' m.frz v ∧ StE S S' s s := by
  have main : ∀ p, S.ow p = some (.slot i) → NoTb (S.H p) → (RepD c (S.lab p none) m.frz v) → Rl c (S.lab p none) (e.set i (some (.val m.frz))) s σ ∧ StE S (S.lab p none) s s := fun p hp hnt hd => by
    have fr : Fr S (S.lab p none) := lab_fr (by rw [hp]; simp)
    have ne : ∀ {a : Addr} {x : Pl}, S.ow a = some x → x ≠ .slot i → a ≠ p := fun h1 h2 z => by subst z; rw [hp] at h1; cases h1; exact h2 rfl
    refine ⟨⟨R.toRlS.step fr (fun a x n hx hn => ⟨rfl, by rw [lab_ne (ne hx (fun z => by subst z; cases hn))]; exact hx⟩) rfl (lab_dom R.dom (by rw [hp]; simp)) (lab_src R.src (by intro x hx; cases hx)) R.hl, by rw [List.length_set]; exact R.elen, fun j m' hj => ?_⟩, ?_⟩
    · by_cases z : i = j
      · subst z
        rw [List.getElem?_set_self hi] at hj
        cases hj
        exact ⟨v, hv, hd⟩
      · rw [List.getElem?_set_ne z] at hj
        obtain ⟨v', h1, h2⟩ := R.slot j m' hj
        exact ⟨v', h1, h2.step fr fun a ha => ⟨rfl, by rw [lab_ne (ne ha (fun w => z (by cases w; rfl)))]; exact ha⟩⟩
    · refine ⟨⟨fr, VerS.refl s, fun n en _ _ a x hx hn => ⟨rfl, by rw [lab_ne (ne hx (fun z => by subst z; cases hn))]; exact hx⟩, fun a hx => ⟨rfl, by rw [lab_ne (ne hx (by simp))]; exact hx⟩⟩, fun a j hx => ⟨rfl, ?_⟩⟩
      by_cases z : a = p
      · subst z; exact .inr ⟨lab_same, hnt⟩
      · exact .inl (by rw [lab_ne z]; exact hx)
  cases m with
  | val d => cases hm
  | ol xs =>
    obtain ⟨p, vs, e1, h1, h2, h3⟩ := h
    have hd : RepD c (S.lab p none) (.lst xs) v := ⟨p, vs, e1, h1, lab_same, h3.mono (lab_fr (by rw [h2]; simp))⟩
    obtain ⟨x, y⟩ := main p h2 (noTb h1 fun _ z => nomatch z) hd
    exact ⟨S.lab p none, x, rfl, hd, y⟩
  | od t kvs =>
    obtain ⟨p, vs, e1, h1, h2, h3⟩ := h
    have hd : RepD c (S.lab p none) (.dic t kvs) v := ⟨p, vs, e1, h1, lab_same, h3.mono (lab_fr (by rw [h2]; simp))⟩
    obtain ⟨x, y⟩ := main p h2 (noTb h1 dHO_nt) hd
    exact ⟨S.lab p none, x, rfl, hd, y⟩

/-! ### reading -/
/-- what stands in the store behind a loc -/
theorem Rl.locs {n : Nat} {a : Addr} {en : Ent} (R : RlS c S s) (ha : S.am[n]? = some a) (he : s[n]? = some en) : S.ow a = some (.obj n) ∧ RepO c S n a en.o := by
  obtain ⟨b, h1, h2, h3⟩ := R.obj n en he
  rw [ha] at h1
  cases h1
  exact ⟨h2, h3⟩
theorem bw_view {m : M} {pl : Pl} {v : V} (R : RlS c S s) (h : RepM c S pl m v) : RepV c S (bw m pl s).1 v := by
  cases m with
  | val d =>
    cases d with
    | loc n =>
      obtain ⟨a, e1, ha⟩ := h
      unfold bw
      dsimp only
      split
      · rename_i xs w he
        obtain ⟨_, vs, h1, h2⟩ := Rl.locs R ha he
        exact ⟨a, vs, e1, h1, h2⟩
      · rename_i t kvs w he
        obtain ⟨_, vs, h1, h2⟩ := Rl.locs R ha he
        exact ⟨a, vs, e1, h1, h2⟩
      · exact ⟨a, e1, ha⟩
    | _ => exact h
  | ol xs => exact RepM.view h
  | od t kvs => exact RepM.view h
theorem bw_at {p : Addr} {pl : Pl} (R : RlS c S s) (h2 : S.ow p = some pl) (hp : pl ≠ .tmp) (st : StE S S' s s') (k : same pl.src s s' = true) : S'.H p = S.H p := by
  have main : ∀ n, pl.src = some n → S'.H p = S.H p := fun n hn => by
    have hlt := R.src p pl n h2 hn
    rw [hn] at k
    have k' : s[n]? = s'[n]? := of_decide_eq_true k
    have he := List.getElem?_eq_getElem hlt
    exact (st.ent n _ he (k' ▸ he) p _ h2 hn).1
  cases pl with
  | slot i => exact (st.slot p i h2).1
  | tmp => exact absurd rfl hp
  | fld n g => exact main n rfl
  | obj n => exact main n rfl
  | oth => exact (st.oth p h2).1
/-- what was read may still be read behind a step that left its object alone -/
theorem bw_keep {m : M} {pl : Pl} {v : V} (R : RlS c S s) (h : RepM c S pl m v) (hp : pl ≠ .tmp) (st : StE S S' s s') (k : same (bw m pl s).2 s s' = true) : RepV c S' (bw m pl s).1 v := by
  have f := st.toFr
  cases m with
  | val d =>
    cases d with
    | loc n =>
      obtain ⟨a, e1, ha⟩ := h
      unfold bw at k ⊢
      dsimp only at k ⊢
      split at k
      · rename_i xs w he
        obtain ⟨h0, vs, h1, h2⟩ := Rl.locs R ha he
        have k' : s[n]? = s'[n]? := of_decide_eq_true k
        obtain ⟨x1, x2⟩ := st.ent n _ he (k' ▸ he) a _ h0 rfl
        exact ⟨a, vs, e1, by rw [x1]; exact h1, h2.mono f⟩
      · rename_i t kvs w he
        obtain ⟨h0, vs, h1, h2⟩ := Rl.locs R ha he
        have k' : s[n]? = s'[n]? := of_decide_eq_true k
        obtain ⟨x1, x2⟩ := st.ent n _ he (k' ▸ he) a _ h0 rfl
        exact ⟨a, vs, e1, by rw [x1]; exact h1, h2.mono f⟩
      · exact ⟨a, e1, f.amAt ha⟩
    | _ => exact RepD.mono f h
  | ol xs =>
    obtain ⟨p, vs, e1, h1, h2, h3⟩ := h
    exact ⟨p, vs, e1, by rw [bw_at R h2 hp st k]; exact h1, h3.mono f⟩
  | od t kvs =>
    obtain ⟨p, vs, e1, h1, h2, h3⟩ := h
    exact ⟨p, vs, e1, by rw [bw_at R h2 hp st k]; exact h1, h3.mono f⟩
/-- a tmp gets another label that is nobody's slot or field -/
theorem lab_ste {p : Addr} {q : Option Pl} (h : S.ow p = some .tmp) : StE S (S.lab p q) s s :=
  have ne : ∀ {a : Addr} {x : Pl}, S.ow a = some x → x ≠ .tmp → a ≠ p := fun h1 h2 z => by subst z; rw [h] at h1; cases h1; exact h2 rfl
  ⟨⟨lab_fr (by rw [h]; simp), VerS.refl s, fun n en _ _ a x hx hn => ⟨rfl, by rw [lab_ne (ne hx (fun z => by subst z; cases hn))]; exact hx⟩, fun a hx => ⟨rfl, by rw [lab_ne (ne hx (by simp))]; exact hx⟩⟩,
    fun a j hx => ⟨rfl, .inl (by rw [lab_ne (ne hx (by simp))]; exact hx)⟩⟩
/-- what was reckoned waits: it is no tmp any more -/
theorem pend {m : M} {pl : Pl} {v : V} (R : Rl c S e s σ) (h : RepM c S pl m v) : ∃ S' pl', Rl c S' e s σ ∧ S'.H = S.H ∧ S'.am = S.am ∧ RepM c S' pl' m v ∧ pl' ≠ .tmp ∧ bw m pl' s = bw m pl s ∧ wk m pl' s = wk m pl s ∧ StE S S' s s := by
  by_cases hp : pl = .tmp
  · subst hp
    have main : ∀ p, S.ow p = some .tmp → RepM c (S.lab p (some .oth)) .oth m v → bw m .oth s = bw m .tmp s → wk m .oth s = wk m .tmp s → ∃ S' pl', Rl c S' e s σ ∧ S'.H = S.H ∧ S'.am = S.am ∧ RepM c S' pl' m v ∧ pl' ≠ .tmp ∧ bw m pl' s = bw m .tmp s ∧ wk m pl' s = wk m .tmp s ∧ StE S S' s s := fun p h1 h2 h3 h4 =>
      ⟨_, .oth, lab_tmp R h1, rfl, rfl, h2, by simp, h3, h4, lab_ste h1⟩
    cases m with
    | val d => exact ⟨S, .oth, R, rfl, rfl, h, by simp, rfl, rfl, StE.refl S s⟩
    | ol xs =>
      obtain ⟨p, vs, e1, h1, h2, h3⟩ := h
      exact main p h2 ⟨p, vs, e1, h1, lab_same, h3.mono (lab_fr (by rw [h2]; simp))⟩ rfl rfl
    | od t kvs =>
      obtain ⟨p, vs, e1, h1, h2, h3⟩ := h
      exact main p h2 ⟨p, vs, e1, h1, lab_same, h3.mono (lab_fr (by rw [h2]; simp))⟩ rfl rfl
  · exact ⟨S, pl, R, rfl, rfl, h, hp, rfl, rfl, StE.refl S s⟩
/-- a result that is data from now on -/
theorem frz_ste {m : M} {v : V} (R : Rl c S e s σ) (h : RepM c S .tmp m v) : ∃ S', Rl c S' e s σ ∧ S'.H = S.H ∧ RepD c S' m.frz v ∧ StE S S' s s := by
  cases m with
  | val d => exact ⟨S, R, rfl, h, StE.refl S s⟩
  | ol xs =>
    obtain ⟨p, vs, e1, h1, h2, h3⟩ := h
    exact ⟨_, lab_tmp (q := none) R h2, rfl, ⟨p, vs, e1, h1, lab_same, h3.mono (lab_fr (by rw [h2]; simp))⟩, lab_ste h2⟩
  | od t kvs =>
    obtain ⟨p, vs, e1, h1, h2, h3⟩ := h
    exact ⟨_, lab_tmp (q := none) R h2, rfl, ⟨p, vs, e1, h1, lab_same, h3.mono (lab_fr (by rw [h2]; simp))⟩, lab_ste h2⟩
end OI

/-! OIc: OI's run as a reading of the hand layer; the lifts of its rules. -/
namespace OI
open PySem PySem.Spec PyProof.Rows L2

def PostG {α β : Type} (c : Cn) (W : WX) (σ : L2.St) (S : Wd) (s : Store) (r : Res α) (rep : Wd → Store → α → β → Prop) (Q : β → Hp → Prop) : Prop :=
  match r with
  | .ok x e' s' => ∀ S' y, Rl c S' e' s' σ → StE S S' s s' → rep S' s' x y → Q y S'.H
  | .err k e' s' => ∀ S', Rl c S' e' s' σ → StE S S' s s' → W (.ref (c.cls k)) none σ S'.H
  | .bad => False
/-- where a value stands -/
def PlOk (σ : L2.St) (S : Wd) (pl : Pl) (v : V) : Prop :=
  match pl with
  | .slot i => σ[i]? = some (some v)
  | .fld n f => ∃ a C dx fs, S.am[n]? = some a ∧ S.H a = some (.ins C dx fs) ∧ fs.lookup (Str.ofString f) = some v
  | .tmp => True
  | _ => False
abbrev rM (c : Cn) (σ : L2.St) : Wd → Store → M × Pl → V → Prop := fun S _ x v => RepM c S x.2 x.1 v ∧ PlOk σ S x.2 v
abbrev rD (c : Cn) : Wd → Store → D → V → Prop := fun S _ d v => RepD c S d v
abbrev rDs (c : Cn) : Wd → Store → List D → List V → Prop := fun S _ d v => RepDs c S d v
abbrev rB : Wd → Store → Bool → Bool → Prop := fun _ _ a b => a = b

/-- the reading: from some state of OI that lies in the heap its run goes on -/
def tG {α β : Type} (c : Cn) (W : WX) (f : Env → Store → Res α) (rep : L2.St → Wd → Store → α → β → Prop) : L2.St → Hp → (β → Hp → Prop) → Prop := fun σ H Q =>
  ∃ S e s, S.H = H ∧ Rl c S e s σ ∧ PostG c W σ S s (f e s) (rep σ) Q
def tE (c : Cn) (W : WX) (f : Env → Store → Res (M × Pl)) : TE := tG c W f (rM c)
def tT (c : Cn) (W : WX) (f : Env → Store → Res (M × Pl)) : TT := tG c W (testB f) fun _ => rB
def tA (c : Cn) (W : WX) (f : Env → Store → Res (List D)) : TA := tG c W f fun _ => rDs c

section
variable {c : Cn} {W : WX} {σ : L2.St} {S : Wd} {s : Store} {e : Env}
theorem PostG.shift {α β : Type} {r : Res α} {rep : Wd → Store → α → β → Prop} {Q : β → Hp → Prop} {S1 : Wd} {s1 : Store} (R : RlS c S s) (st : StE S S1 s s1) (h : PostG c W σ S s r rep Q) : PostG c W σ S1 s1 r rep Q := by
  cases r with
  | ok x e' s' => exact fun S' y R' st' rp => h S' y R' (st.trans R.dom st') rp
  | err k e' s' => exact fun S' R' st' => h S' R' (st.trans R.dom st')
  | bad => exact h
/-- the first part of a run, then the rest of it -/
theorem PostG.bind {α β γ δ : Type} {r : Res α} {k : α → Env → Store → Res γ} {rep : Wd → Store → α → β → Prop} {rep' : Wd → Store → γ → δ → Prop} {Q : δ → Hp → Prop} {G : β → Hp → Prop} (R : RlS c S s) (h : PostG c W σ S s (r.bind k) rep' Q)
    (g : ∀ x e1 s1 S1 y, r = .ok x e1 s1 → Rl c S1 e1 s1 σ → StE S S1 s s1 → rep S1 s1 x y → PostG c W σ S1 s1 (k x e1 s1) rep' Q → G y S1.H) : PostG c W σ S s r rep G := by
  cases r with
  | ok x e1 s1 => exact fun S1 y R1 st rp => g x e1 s1 S1 y rfl R1 st rp (PostG.shift R st h)
  | err k' e1 s1 => exact h
  | bad => exact h
theorem PostG.mono {α β : Type} {r : Res α} {rep : Wd → Store → α → β → Prop} {Q Q' : β → Hp → Prop} (h : PostG c W σ S s r rep Q) (k : ∀ y H, Q y H → Q' y H) : PostG c W σ S s r rep Q' := by
  cases r with
  | ok x e' s' => exact fun S' y R' st' rp => k _ _ (h S' y R' st' rp)
  | err k e' s' => exact h
  | bad => exact h
end

theorem _root_.L2.PE.weak {X : Cx} {a : Expr} {t u : TE} (h : PE X a u) (k : ∀ σ H Q, t σ H Q → u σ H Q) : PE X a t := ⟨fun pins s σ H Q I q => h.run pins s σ H Q I (k σ H Q q)⟩
theorem _root_.L2.PT.weak {X : Cx} {a : Expr} {t u : TT} (h : PT X a u) (k : ∀ σ H Q, t σ H Q → u σ H Q) : PT X a t := ⟨fun pins s σ H Q I q => h.run pins s σ H Q I (k σ H Q q)⟩
theorem _root_.L2.PA.weak {X : Cx} {a : List Expr} {t u : TA} (h : PA X a u) (k : ∀ σ H Q, t σ H Q → u σ H Q) : PA X a t := ⟨fun pos pins s σ H Q I q => h.run pos pins s σ H Q I (k σ H Q q)⟩

section
variable {X : Cx} {c : Cn} {W : WX}

/-! ### values of what was read -/
/-- the end of an expression that lays something new, or nothing -/
theorem end_al {σ : L2.St} {S S' : Wd} {s : Store} {e : Env} {m : M} {v : V} {Q : VK} (R : Rl c S e s σ) (h : PostG c W σ S s (.ok (m, .tmp) e s) (rM c σ) Q) (al : Al c S S') (rp : RepM c S' .tmp m v) : Q v S'.H :=
  h S' v (al.rl R) (al.ste R.dom s) ⟨rp, trivial⟩
theorem end_val {σ : L2.St} {S : Wd} {s : Store} {e : Env} {d : D} {v : V} {Q : VK} (R : Rl c S e s σ) (h : PostG c W σ S s (.ok (.val d, .tmp) e s) (rM c σ) Q) (rp : RepD c S d v) : Q v S.H :=
  end_al R h (Al.refl R.toRlS) rp

/-! ### names, constants -/
theorem s_var {i : Nat} {x : Str} {pos : Pos} {R : Runs} (hN : X.N[i]? = some x) (hv : Vis X.env.scope x) (hd : (x == ("__debug__" : Str)) = false) (hcd : (x == ("__classdict__" : Str)) = false) : PE X (.Name x pos) (tE c W (ev R (.var i))) := by
  refine (pe_var hN hv hd hcd).weak fun σ H Q q => ?_
  obtain ⟨S, e, s, rfl, Rr, p⟩ := q
  replace p : PostG c W σ S s (varK e[i]? i e s) (rM c σ) Q := p
  unfold varK at p
  split at p
  · rename_i m hm
    obtain ⟨v, h1, h2⟩ := Rr.slot i m hm
    exact ⟨v, h1, p S v Rr (StE.refl S s) ⟨h2, h1⟩⟩
  · exact p.elim
theorem s_cst_int {i : Int} {j pos} {R : Runs} : PE X (.Constant (.int i) j pos) (tE c W (ev R (.cst (.int i)))) :=
  pe_int.weak fun σ H Q q => by
    obtain ⟨S, e, s, rfl, Rr, p⟩ := q
    exact end_val Rr p rfl
theorem s_cst_bl {i : Bool} {j pos} {R : Runs} : PE X (.Constant (.bool i) j pos) (tE c W (ev R (.cst (.bl i)))) :=
  pe_bl.weak fun σ H Q q => by
    obtain ⟨S, e, s, rfl, Rr, p⟩ := q
    exact end_val Rr p rfl
theorem s_cst_str {i : Str} {j pos} {R : Runs} : PE X (.Constant (.str i) j pos) (tE c W (ev R (.cst (.str i)))) :=
  pe_str.weak fun σ H Q q => by
    obtain ⟨S, e, s, rfl, Rr, p⟩ := q
    exact end_val Rr p rfl
theorem s_cst_non {j pos} {R : Runs} : PE X (.Constant .none j pos) (tE c W (ev R (.cst .non))) :=
  pe_non.weak fun σ H Q q => by
    obtain ⟨S, e, s, rfl, Rr, p⟩ := q
    exact end_val Rr p rfl
/-- a module's constant -/
def GlobOk (c : Cn) (mg : Str → Option Value) (x : String) (d : D) : Prop := ∃ v u, mg (Str.ofString x) = some u ∧ RelV v u ∧ ∀ S, RepD c S d v
theorem s_glob {x : String} {d : D} {pos : Pos} {R : Runs} (hg : Gl X (Str.ofString x)) (h : GlobOk c X.mg x d) (hd : (Str.ofString x == ("__debug__" : Str)) = false) : PE X (.Name (Str.ofString x) pos) (tE c W (ev R (.glob x d))) := by
  obtain ⟨v, u, h1, h2, h3⟩ := h
  exact (pe_glob hg h1 h2 hd).weak fun σ H Q q => by
    obtain ⟨S, e, s, rfl, Rr, p⟩ := q
    exact end_val Rr p (h3 S)

/-! ### two operands -/
/-- by values: what a value-level rule is asked, from what OI knows of two things read -/
def R2of (c : Cn) (k : M → M → Option M) : R2 := fun x y H Q => ∃ S s m1 m2 m, S.H = H ∧ RlS c S s ∧ RepV c S m1 x ∧ RepV c S m2 y ∧ k m1 m2 = some m ∧ ∀ S' v, Al c S S' → RepM c S' .tmp m v → Q v S'.H
theorem two_ok {fa fb : Env → Store → Res (M × Pl)} {k : M → M → Env → Store → Res (M × Pl)} {σ : L2.St} {H : Hp} {Q : VK} {rest : V → V → Hp → Prop} (h : tE c W (two fa fb k) σ H Q)
    (hr : ∀ S e s m1 m2 x y, Rl c S e s σ → RepV c S m1 x → RepV c S m2 y → PostG c W σ S s (k m1 m2 e s) (rM c σ) Q → rest x y S.H) :
    tE c W fa σ H fun x H1 => tE c W fb σ H1 fun y H2 => rest x y H2 := by
  obtain ⟨S, e, s, rfl, Rr, p⟩ := h
  refine ⟨S, e, s, rfl, Rr, PostG.bind Rr.toRlS p fun x1 e1 s1 S1 v1 q1 R1 st1 rp1 p1 => ?_⟩
  obtain ⟨S1', pl', R1', hH, ham, rp1', hpl, hbw, _, st1'⟩ := pend R1 rp1.1
  replace p1 := PostG.shift R1.toRlS st1' p1
  refine ⟨S1', e1, s1, hH, R1', PostG.bind R1'.toRlS p1 fun x2 e2 s2 S2 v2 q2 R2 st2 rp2 p2 => ?_⟩
  split at p2
  · rename_i hs
    rw [← hbw] at hs p2
    exact hr S2 e2 s2 _ _ v1 v2 R2 (bw_keep R1'.toRlS rp1' hpl st2 hs) (bw_view R2.toRlS rp2.1) p2
  · exact p2.elim
theorem out_ok {o : Option M} {σ : L2.St} {S : Wd} {s : Store} {e : Env} {Q : VK} (h : PostG c W σ S s (out o e s) (rM c σ) Q) : ∃ m, o = some m ∧ PostG c W σ S s (.ok (m, .tmp) e s) (rM c σ) Q := by
  unfold out at h
  split at h
  · exact ⟨_, rfl, h⟩
  · exact h.elim
theorem outB_ok {o : Option Bool} {σ : L2.St} {S : Wd} {s : Store} {e : Env} {Q : VK} (h : PostG c W σ S s (outB o e s) (rM c σ) Q) : ∃ m, o = some m ∧ PostG c W σ S s (.ok (.val (.bl m), .tmp) e s) (rM c σ) Q := by
  unfold outB at h
  split at h
  · exact ⟨_, rfl, h⟩
  · exact h.elim
theorem two_R2 {fa fb : Env → Store → Res (M × Pl)} {k : M → M → Option M} {σ : L2.St} {H : Hp} {Q : VK} (h : tE c W (two fa fb fun x y => out (k x y)) σ H Q) :
    tOp (R2of c k) (tE c W fa) (tE c W fb) σ H Q :=
  two_ok h fun S e s m1 m2 x y Rr r1 r2 p => by
    obtain ⟨m, hm, p⟩ := out_ok p
    exact ⟨S, s, m1, m2, m, rfl, Rr.toRlS, r1, r2, hm, fun S' v al rp => end_al Rr p al rp⟩
theorem s_bin {op : BOp} {o : Operator} {a b : Expr} {ia ib : IE} {pos : Pos} {R : Runs} (ho : OpR X (binaryOp o) (R2of c (bin op))) (ha : PE X a (tE c W (ev R ia))) (hb : PE X b (tE c W (ev R ib))) : PE X (.BinOp a o b pos) (tE c W (ev R (.bin op ia ib))) :=
  (pe_op ho ha hb).weak fun σ H Q q => two_R2 q
end
end OI

/-! OId: the operations by values. -/
namespace OI
open PySem PySem.Spec PyProof.Rows L2

/-- an object is laid at a new place -/
def Wd.put (S : Wd) (p : Addr) (o : HO) (q : Option Pl) : Wd := ⟨S.am, fun a => if a = p then q else S.ow a, upd S.H p o⟩
def HLo (o : HO) : Prop := (∀ xs, o = .lst xs → xs.length ≤ 16777216) ∧ (∀ xs, o = .tup xs → xs.length ≤ 16777216) ∧ (∀ xs, o = .dK xs → xs.length ≤ 16777216) ∧ (∀ ob u, o ≠ .frz ob u) ∧ (∀ ps, o ≠ .tbl ps) ∧ ∀ φ, o = .ext φ → ∀ a q, HO.ext φ ≠ LamX.CodeO a q
theorem HLo.lst {xs : List V} (h : xs.length ≤ 16777216) : HLo (.lst xs) := ⟨fun _ e => (by cases e; exact h), fun _ e => (by cases e), fun _ e => (by cases e), fun _ _ e => (by cases e), fun _ e => (by cases e), fun _ e => (by cases e)⟩
theorem HLo.tup {xs : List V} (h : xs.length ≤ 16777216) : HLo (.tup xs) := ⟨fun _ e => (by cases e), fun _ e => (by cases e; exact h), fun _ e => (by cases e), fun _ _ e => (by cases e), fun _ e => (by cases e), fun _ e => (by cases e)⟩
theorem HLo.dN {p : Addr} {ks : List NK.NKey} {vs : List V} : HLo (.ext (NK.DicAt p ks vs)) := ⟨fun _ e => (by cases e), fun _ e => (by cases e), fun _ e => (by cases e), fun _ _ e => (by cases e), fun _ e => (by cases e), fun _ e => (by cases e; exact fun _ _ => NK.dic_ne)⟩
theorem dm_of {a : Addr} {x : Option HO} {o : HO} (h : x = some o) (n : HLo o) : Dm a x := ⟨o, h, n.2.2.2.2.1, fun q z => by
  cases o with
  | ext φ => exact n.2.2.2.2.2 φ rfl _ _ z
  | _ => cases z⟩
theorem HLn.put {H : Hp} (h : HLn H) {p : Addr} {o : HO} (ho : HLo o) : HLn (upd H p o) := fun a => by
  by_cases z : a = p
  · subst z
    rw [upd_same]
    exact ⟨fun xs e => ho.1 xs (Option.some.inj e), fun xs e => ho.2.1 xs (Option.some.inj e), fun xs e => ho.2.2.1 xs (Option.some.inj e)⟩
  · rw [upd_ne z]
    exact h a
/-- neither a table nor a code object -/
def Pln (p : Addr) (x : Option HO) : Prop := (∀ ps, x ≠ some (.tbl ps)) ∧ ∀ q, x ≠ some (LamX.CodeO p q)
theorem code_ne {p : Addr} {q : Str} {o : HO} (h : ∀ φ, o ≠ .ext φ) : o ≠ LamX.CodeO p q := fun z => h _ z
theorem pln_none {p : Addr} {x : Option HO} (h : x = none) : Pln p x := by
  subst h
  exact ⟨fun _ z => (nomatch z), fun _ z => (nomatch z)⟩
theorem pln_lst {p : Addr} {x : Option HO} {vs : List V} (h : x = some (.lst vs)) : Pln p x := by
  subst h
  exact ⟨fun _ z => (nomatch z), fun _ z => code_ne (fun _ y => by cases y) (Option.some.inj z)⟩
theorem pln_dK {p : Addr} {x : Option HO} {vs : List (Key × V)} (h : x = some (.dK vs)) : Pln p x := by
  subst h
  exact ⟨fun _ z => (nomatch z), fun _ z => code_ne (fun _ y => by cases y) (Option.some.inj z)⟩
theorem pln_ins {p : Addr} {x : Option HO} {a b : Addr} {fs : List (Str × V)} (h : x = some (.ins a b fs)) : Pln p x := by
  subst h
  exact ⟨fun _ z => (nomatch z), fun _ z => code_ne (fun _ y => by cases y) (Option.some.inj z)⟩
theorem pln_dHO {c : Cn} {p a : Addr} {t : Bool} {ks : List D} {vs : List V} {x : Option HO} (h : x = some (dHO c a t ks vs)) : Pln p x := by
  cases t with
  | false => exact pln_dK h
  | true =>
    refine ⟨fun ps z => ?_, fun q z => ?_⟩
    · rw [h] at z
      exact dHO_nt ps (Option.some.inj z)
    · rw [h] at z
      exact NK.dic_ne (Option.some.inj z)
theorem pln_con {c : Cn} {S : Wd} {m : M} {a : Addr} (hm : m.isVal = false) (r : RepV c S m (.ref a)) : Pln a (S.H a) := by
  cases m with
  | val d => cases hm
  | ol xs =>
    obtain ⟨p, vs, e, h, _⟩ := r
    cases e
    exact pln_lst h
  | od t kvs =>
    obtain ⟨p, vs, e, h, _⟩ := r
    cases e
    exact pln_dHO h
theorem tabs_put {T : List (Addr × Str)} {H : Hp} (h : LamX.Tabs T H) {p : Addr} {o : HO} (hp : Pln p (H p)) : LamX.Tabs T (upd H p o) := fun q hq => by
  obtain ⟨ps, h1, h2, h3⟩ := h q hq
  refine ⟨ps, by rw [upd_ne (fun z => hp.1 ps (by rw [← z]; exact h1))]; exact h1, h2, fun pos cv hc => ?_⟩
  obtain ⟨cd, e1, e2⟩ := h3 pos cv hc
  exact ⟨cd, e1, by rw [upd_ne (fun z => hp.2 q.2 (by rw [← z]; exact e2))]; exact e2⟩
theorem HL.put {c : Cn} {H : Hp} (h : HL c H) {p : Addr} {o : HO} (hp : Pln p (H p)) (ho : HLo o) : HL c (upd H p o) := ⟨h.n.put ho, tabs_put h.t hp⟩
variable {c : Cn} {S : Wd} {s : Store}
theorem put_ow {p : Addr} {o : HO} {q : Option Pl} : (S.put p o q).ow p = q := if_pos rfl
theorem put_H {p : Addr} {o : HO} {q : Option Pl} : (S.put p o q).H p = some o := upd_same
theorem Al.lay (R : RlS c S s) {p : Addr} {o : HO} {q : Option Pl} (hp : S.H p = none) (hq : q = none ∨ q = some .tmp) (ho : HLo o) : Al c S (S.put p o q) where
  am := rfl
  old := fun a u e => ⟨by
    show upd S.H p o a = _
    rw [upd_ne (ne_of_none e hp)]; exact e, if_neg (ne_of_none e hp)⟩
  new := fun a e => by
    by_cases z : a = p
    · subst z
      rw [put_ow]
      exact hq
    · have e2 : (S.put p o q).ow a = S.ow a := if_neg z
      rw [e2]
      cases w : S.ow a with
      | none => exact .inl rfl
      | some x => exact absurd e (R.dom a (by rw [w]; simp)).ne
  dom := fun a e => by
    by_cases z : a = p
    · subst z
      exact dm_of put_H ho
    · have e2 : (S.put p o q).ow a = S.ow a := if_neg z
      rw [e2] at e
      show Dm a (upd S.H p o a)
      rw [upd_ne z]
      exact R.dom a e
  hl := R.hl.put (pln_none hp) ho
/-- a new list of one's own, a new tuple -/
theorem new_lst (R : RlS c S s) {p : Addr} {vs : List V} {ds : List D} (hp : S.H p = none) (r : RepDs c S ds vs) (hl : vs.length ≤ 16777216) : ∃ S', Al c S S' ∧ S'.H = upd S.H p (.lst vs) ∧ RepM c S' .tmp (.ol ds) (.ref p) :=
  have al := Al.lay R (q := some .tmp) hp (.inr rfl) (HLo.lst hl)
  ⟨_, al, rfl, p, vs, rfl, put_H, put_ow, r.mono al.fr⟩
theorem new_tup (R : RlS c S s) {p : Addr} {vs : List V} {ds : List D} (hp : S.H p = none) (r : RepDs c S ds vs) (hl : vs.length ≤ 16777216) : ∃ S', Al c S S' ∧ S'.H = upd S.H p (.tup vs) ∧ RepM c S' .tmp (.val (.tup ds)) (.ref p) :=
  have al := Al.lay R (q := none) hp (.inl rfl) (HLo.tup hl)
  ⟨_, al, rfl, p, vs, rfl, .inl ⟨.inl put_H, put_ow⟩, r.mono al.fr⟩

/-- what a list is, whose ever -/
theorem lst1_of {m : M} {v : V} {ds : List D} (h : m.lst1? = some ds) (r : RepV c S m v) : ∃ p vs, v = .ref p ∧ S.H p = some (.lst vs) ∧ RepDs c S ds vs := by
  cases m with
  | val d =>
    cases d with
    | lst xs =>
      cases h
      obtain ⟨p, vs, e, h1, _, h2⟩ := r
      exact ⟨p, vs, e, h1, h2⟩
    | _ => cases h
  | ol xs =>
    cases h
    exact r
  | od t kvs => cases h
theorem lst_of {m : M} {v : V} {ds : List D} (h : m.lst? = some ds) (r : RepV c S m v) : ∃ p vs, v = .ref p ∧ SqL c.K S.H p vs ∧ RepDs c S ds vs := by
  cases m with
  | val d =>
    cases d with
    | lst xs =>
      cases h
      obtain ⟨p, vs, e, h1, _, h2⟩ := r
      exact ⟨p, vs, e, SqL.of h1, h2⟩
    | scr ns =>
      cases h
      obtain ⟨p, e, h1⟩ := r
      exact ⟨p, _, e, h1.sq, RepDs.ints ns⟩
    | _ => cases h
  | ol xs =>
    cases h
    obtain ⟨p, vs, e, h1, h2⟩ := r
    exact ⟨p, vs, e, SqL.of h1, h2⟩
  | od t kvs => cases h
theorem seq_of {m : M} {v : V} {ds : List D} (h : m.seq? = some ds) (r : RepV c S m v) : ∃ p vs, v = .ref p ∧ (SqL c.K S.H p vs ∨ SqT c.K S.H p vs) ∧ RepDs c S ds vs := by
  have other : m.lst? = some ds → ∃ p vs, v = .ref p ∧ (SqL c.K S.H p vs ∨ SqT c.K S.H p vs) ∧ RepDs c S ds vs := fun h => by
    obtain ⟨p, vs, e, h1, h2⟩ := lst_of h r
    exact ⟨p, vs, e, .inl h1, h2⟩
  cases m with
  | val d =>
    cases d with
    | tup xs =>
      cases h
      obtain ⟨p, vs, e, h1, h2⟩ := r
      exact ⟨p, vs, e, .inr h1.sq, h2⟩
    | _ => exact other h
  | _ => exact other h
theorem len_le {X : Cx} {pins : List (Addr × Obj)} {σ : L2.St} {sh : Shared} (I : Inv X pins σ S.H sh) (hK : X.K = c.K) {p : Addr} {vs : List V} (h : SqL c.K S.H p vs ∨ SqT c.K S.H p vs) : vs.length ≤ 16777216 := by
  rw [← hK] at h
  rcases h with h | h
  · obtain ⟨its, _, _, hz⟩ := I.list h
    rw [sizeLine_eq] at hz
    exact hz
  · obtain ⟨its, _, _, hz⟩ := I.tuple h
    rw [sizeLine_eq] at hz
    exact hz

/-- two ints -/
theorem intM_of {f : Int → Int → Option Int} {m1 m2 m : M} {x y : V} (h : intM f m1 m2 = some m) (r1 : RepV c S m1 x) (r2 : RepV c S m2 y) : ∃ i j k, x = .int i ∧ y = .int j ∧ f i j = some k ∧ m = .val (.int k) := by
  unfold intM at h
  split at h
  · rename_i i j
    cases e : f i j with
    | none => rw [e] at h; cases h
    | some k =>
      rw [e] at h
      cases h
      exact ⟨i, j, k, r1, r2, e, rfl⟩
  · cases h
section
variable {X : Cx}
theorem v_int {g : Value → Value → Sem Value} {f : Int → Int → Option Int} {C : Int → Int → Prop} {k : Int → Int → Int} (h : OpR X g (rI C fun i j => .int (k i j))) (hf : ∀ i j z, f i j = some z → C i j ∧ z = k i j) : OpR X g (R2of c (intM f)) := by
  intro pins s σ H x y v u Q I rx ry h1
  obtain ⟨S, st, m1, m2, m, rfl, R, r1, r2, hm, q⟩ := h1
  obtain ⟨i, j, z, rfl, rfl, hz, rfl⟩ := intM_of hm r1 r2
  obtain ⟨hc, rfl⟩ := hf i j z hz
  exact h pins s σ S.H _ _ v u Q I rx ry ⟨i, j, rfl, rfl, hc, q S _ (Al.refl R) rfl⟩
theorem rI_of {g : Value → Value → Sem Value} {k : Int → Int → Int} (h : OpR X g (rI0 fun i j => .int (k i j))) : OpR X g (rI (fun _ _ => True) fun i j => .int (k i j)) := fun pins s σ H x y v u Q I rx ry q => by
  obtain ⟨i, j, e1, e2, _, q⟩ := q
  exact h pins s σ H x y v u Q I rx ry ⟨i, j, e1, e2, q⟩
theorem v_sub : OpR X (binaryOp .Sub) (R2of c (bin .sub)) := v_int (rI_of op_sub) fun i j z h => ⟨trivial, (Option.some.inj h).symm⟩
theorem v_fdiv : OpR X (binaryOp .FloorDiv) (R2of c (bin .fdiv)) := v_int op_fdivW fun i j z h => by
  split at h
  · rename_i hc
    exact ⟨hc, (Option.some.inj h).symm⟩
  · cases h
theorem v_mod : OpR X (binaryOp .Mod) (R2of c (bin .mod)) := v_int op_mod fun i j z h => by
  split at h
  · rename_i hc
    exact ⟨hc, (Option.some.inj h).symm⟩
  · cases h
theorem v_pow : OpR X (binaryOp .Pow) (R2of c (bin .pow)) := v_int op_pow fun i j z h => by
  split at h
  · rename_i hc
    exact ⟨hc, (Option.some.inj h).symm⟩
  · cases h
theorem lim_le {n : Nat} (h : n ≤ LIM) : n ≤ sizeLine := by
  rw [sizeLine_eq]
  exact h
theorem v_add (hK : X.K = c.K) : OpR X (binaryOp .Add) (R2of c (bin .add)) := by
  intro pins s σ H x y v u Q I rx ry h
  obtain ⟨S, st, m1, m2, m, rfl, R, r1, r2, hm, q⟩ := h
  replace hm : addM m1 m2 = some m := hm
  unfold addM at hm
  split at hm
  · cases hm
    cases r1
    cases r2
    exact op_add pins s σ S.H _ _ v u Q I rx ry ⟨_, _, rfl, rfl, q S _ (Al.refl R) rfl⟩
  · split at hm
    · rename_i hl
      cases hm
      cases r1
      cases r2
      exact op_add_str pins s σ S.H _ _ v u Q I rx ry ⟨_, _, rfl, rfl, lim_le hl, q S _ (Al.refl R) rfl⟩
    · cases hm
  · split at hm
    · rename_i xs ys hl
      cases hm
      obtain ⟨p, vs, rfl, h1, h2⟩ := r1
      obtain ⟨p', vs', rfl, h1', h2'⟩ := r2
      have hl' : vs.length + vs'.length ≤ LIM := by rw [h2.length, h2'.length]; exact hl
      refine op_catA pins s σ S.H _ _ v u Q I rx ry ⟨p, p', vs, vs', rfl, rfl, by rw [hK]; exact h1.sq, by rw [hK]; exact h1'.sq, lim_le hl', fun z => ?_, fun z1 z2 => ?_, fun z1 z2 a na => ?_⟩
      · subst z
        have e1 : xs = [] := by
          have := h2.length
          exact List.eq_nil_of_length_eq_zero this.symm
        subst e1
        exact q S _ (Al.refl R) ⟨p', vs', rfl, h1', h2'⟩
      · subst z2
        have e1 : ys = [] := by
          have := h2'.length
          exact List.eq_nil_of_length_eq_zero this.symm
        subst e1
        rw [List.append_nil] at q
        exact q S _ (Al.refl R) ⟨p, vs, rfl, h1, h2⟩
      · obtain ⟨S', al, hH, rp⟩ := new_tup R na (h2.append h2') (by rw [List.length_append]; exact hl')
        have := q S' _ al rp
        rw [hH] at this
        exact this
    · cases hm
  · rename_i m1 m2 _ _ _
    split at hm
    · rename_i xs ys e1 e2
      split at hm
      · rename_i hl
        cases hm
        obtain ⟨p, vs, rfl, h1, h2⟩ := lst1_of e1 r1
        obtain ⟨p', vs', rfl, h1', h2'⟩ := lst1_of e2 r2
        have hl' : vs.length + vs'.length ≤ LIM := by rw [h2.length, h2'.length]; exact hl
        refine op_cat pins s σ S.H _ _ v u Q I rx ry ⟨p, p', vs, vs', rfl, rfl, h1, h1', lim_le hl', fun a na => ?_⟩
        obtain ⟨S', al, hH, rp⟩ := new_lst R na (h2.append h2') (by rw [List.length_append]; exact hl')
        have := q S' _ al rp
        rw [hH] at this
        exact this
      · cases hm
    · cases hm
end
end OI

/-! OIe: comparisons, subscripts by values. -/
namespace OI
open PySem PySem.Spec PyProof.Rows L2
variable {c : Cn} {S : Wd} {s : Store}
/-- a comparison: the heap stays -/
def R2b (c : Cn) (k : M → M → Option Bool) : R2 := fun x y H Q => ∃ S s m1 m2 b, S.H = H ∧ RlS c S s ∧ RepV c S m1 x ∧ RepV c S m2 y ∧ k m1 m2 = some b ∧ Q (.bl b) H

mutual
theorem dp_of (S : Wd) : ∀ {d : D} {v : V}, RepD c S d v → (toPy d).canLay0 = true → Dp c.K S.H v (toPy d)
  | .non, _, h, _ => by cases h; exact .non
  | .bl b, _, h, _ => by cases h; exact .bl b
  | .int i, _, h, _ => by cases h; exact .int i
  | .str x, _, h, _ => by cases h; exact .str x
  | .tup xs, _, ⟨p, vs, e, h1, h2⟩, l => by
    subst e
    exact .tup h1.sq (dps_of S h2 (by simpa [toPy, PyData.canLay0] using l))
  | .lst xs, _, ⟨p, vs, e, h1, _, h2⟩, l => by
    subst e
    exact .lst (SqL.of h1) (dps_of S h2 (by simpa [toPy, PyData.canLay0] using l))
  | .scr ns, _, ⟨p, e, h1⟩, l => by
    subst e
    exact .lst h1.sq (dpi_of ns)
  | .dic _ _, _, _, l => by simp [toPy, PyData.canLay0] at l
  | .loc _, _, _, l => by simp [toPy, PyData.canLay0] at l
  | .exn _, _, _, l => by simp [toPy, PyData.canLay0] at l
  | .lam _ _, _, _, l => by simp [toPy, PyData.canLay0] at l
theorem dps_of (S : Wd) : ∀ {d : List D} {v : List V}, RepDs c S d v → PyData.canLayAll0 (toPys d) = true → DpAll c.K S.H v (toPys d)
  | [], _, h, _ => by rw [show _ = [] from h]; exact .nil
  | d :: ds, _, ⟨v, r, e, h1, h2⟩, l => by
    subst e
    have l' : (toPy d).canLay0 = true ∧ PyData.canLayAll0 (toPys ds) = true := by simpa [toPys, PyData.canLayAll0] using l
    exact .cons (dp_of S h1 l'.1) (dps_of S h2 l'.2)
theorem dpi_of {S : Wd} : ∀ ns : List Int, DpAll c.K S.H (ns.map V.int) (ns.map PyData.int)
  | [] => .nil
  | n :: ns => .cons (.int n) (dpi_of ns)
end
theorem dpv_of {m : M} {v : V} (r : RepV c S m v) (l : (toPy m.frz).canLay0 = true) : Dp c.K S.H v (toPy m.frz) := by
  cases m with
  | val d => exact dp_of S r l
  | ol xs =>
    obtain ⟨p, vs, e, h1, h2⟩ := r
    subst e
    exact .lst (SqL.of h1) (dps_of S h2 (by simpa [M.frz, toPy, PyData.canLay0] using l))
  | od t kvs => simp [M.frz, toPy, PyData.canLay0] at l
theorem frz_str {m : M} {x : Str} {v : V} (h : m.frz = .str x) (r : RepV c S m v) : v = .str x := by
  cases m with
  | val d =>
    have e : d = .str x := h
    subst e
    exact r
  | ol xs => cases h
  | od t kvs => cases h

theorem scal_str (x y : Str) : scal (.str x) (.str y) = true := rfl
section
variable {X : Cx}
theorem eqB_cases {d e : D} {b : Bool} (h : eqB d e = some b) : (∃ x y, d = .str x ∧ e = .str y ∧ b = decide (x = y)) ∨ (cmpOk d e = true ∧ b = eqv d e) := by
  unfold eqB at h
  split at h
  · cases h
    exact .inl ⟨_, _, rfl, rfl, rfl⟩
  · split at h
    · rename_i hc
      cases h
      exact .inr ⟨hc, rfl⟩
    · cases h
theorem v_eq (hK : X.K = c.K) (hu : X.A.units + 64 < cLine) : OpR X (compareOp .Eq) (R2b c (cmp .eq)) := by
  intro pins s σ H x y v u Q I rx ry h
  obtain ⟨S, st, m1, m2, b, rfl, R, r1, r2, hm, q⟩ := h
  rcases eqB_cases hm with ⟨z, w, e1, e2, rfl⟩ | ⟨hc, rfl⟩
  · obtain rfl := frz_str e1 r1
    obtain rfl := frz_str e2 r2
    refine op_eq pins s σ S.H _ _ v u Q I rx ry ⟨rfl, ?_⟩
    rw [show decide (V.str z = V.str w) = decide (z = w) from by rw [decide_eq_decide]; exact ⟨fun h => by cases h; rfl, fun h => by rw [h]⟩]
    exact q
  · unfold cmpOk at hc
    simp only [Bool.and_eq_true, decide_eq_true_eq] at hc
    obtain ⟨⟨l1, l2⟩, l3⟩ := hc
    have d1 := dpv_of r1 l1
    have d2 := dpv_of r2 l2
    rw [← hK] at d1 d2
    obtain ⟨as, g1⟩ := Dp.reads I _ x v d1 rx
    obtain ⟨bs, g2⟩ := Dp.reads I _ y u d2 ry
    exact SeqAt.compareEq_reads g1 g2 l1 l2 (by unfold D.deep at l3; omega) ⟨.bl _, S.H, I, rfl, q⟩
theorem v_ne (hK : X.K = c.K) (hu : X.A.units + 64 < cLine) : OpR X (compareOp .NotEq) (R2b c (cmp .ne)) := by
  intro pins s σ H x y v u Q I rx ry h
  obtain ⟨S, st, m1, m2, b, rfl, R, r1, r2, hm, q⟩ := h
  have hm : (eqB m1.frz m2.frz).map (fun c => !c) = some b := hm
  cases e : eqB m1.frz m2.frz with
  | none => rw [e] at hm; cases hm
  | some b' =>
    rw [e] at hm
    cases hm
    rcases eqB_cases e with ⟨z, w, e1, e2, rfl⟩ | ⟨hc, rfl⟩
    · obtain rfl := frz_str e1 r1
      obtain rfl := frz_str e2 r2
      refine op_ne pins s σ S.H _ _ v u Q I rx ry ⟨rfl, ?_⟩
      rw [show decide (V.str z = V.str w) = decide (z = w) from by rw [decide_eq_decide]; exact ⟨fun h => by cases h; rfl, fun h => by rw [h]⟩]
      exact q
    · unfold cmpOk at hc
      simp only [Bool.and_eq_true, decide_eq_true_eq] at hc
      obtain ⟨⟨l1, l2⟩, l3⟩ := hc
      have d1 := dpv_of r1 l1
      have d2 := dpv_of r2 l2
      rw [← hK] at d1 d2
      obtain ⟨as, g1⟩ := Dp.reads I _ x v d1 rx
      obtain ⟨bs, g2⟩ := Dp.reads I _ y u d2 ry
      exact SeqAt.compareNe_reads g1 g2 l1 l2 (by unfold D.deep at l3; omega) ⟨.bl _, S.H, I, rfl, q⟩
theorem cmpI_of {op : COp} (h1 : op ≠ .eq) (h2 : op ≠ .ne) (h3 : op ≠ .isin) (h4 : op ≠ .nin) {m1 m2 : M} {b : Bool} {x y : V} (h : cmp op m1 m2 = some b) (r1 : RepV c S m1 x) (r2 : RepV c S m2 y) : ∃ i j, x = .int i ∧ y = .int j ∧ cmpI op i j = some b := by
  unfold cmp at h
  split at h <;> first | contradiction | skip
  split at h
  · exact ⟨_, _, r1, r2, h⟩
  · cases h
theorem v_lt : OpR X (compareOp .Lt) (R2b c (cmp .lt)) := by
  intro pins s σ H x y v u Q I rx ry h
  obtain ⟨S, st, m1, m2, b, rfl, R, r1, r2, hm, q⟩ := h
  obtain ⟨i, j, rfl, rfl, e⟩ := cmpI_of (by simp) (by simp) (by simp) (by simp) hm r1 r2
  cases e
  exact op_lt pins s σ S.H _ _ v u Q I rx ry ⟨i, j, rfl, rfl, q⟩
theorem v_le : OpR X (compareOp .LtE) (R2b c (cmp .le)) := by
  intro pins s σ H x y v u Q I rx ry h
  obtain ⟨S, st, m1, m2, b, rfl, R, r1, r2, hm, q⟩ := h
  obtain ⟨i, j, rfl, rfl, e⟩ := cmpI_of (by simp) (by simp) (by simp) (by simp) hm r1 r2
  cases e
  exact op_le pins s σ S.H _ _ v u Q I rx ry ⟨i, j, rfl, rfl, q⟩
theorem v_gt : OpR X (compareOp .Gt) (R2b c (cmp .gt)) := by
  intro pins s σ H x y v u Q I rx ry h
  obtain ⟨S, st, m1, m2, b, rfl, R, r1, r2, hm, q⟩ := h
  obtain ⟨i, j, rfl, rfl, e⟩ := cmpI_of (by simp) (by simp) (by simp) (by simp) hm r1 r2
  cases e
  exact op_gt pins s σ S.H _ _ v u Q I rx ry ⟨i, j, rfl, rfl, q⟩
theorem v_ge : OpR X (compareOp .GtE) (R2b c (cmp .ge)) := by
  intro pins s σ H x y v u Q I rx ry h
  obtain ⟨S, st, m1, m2, b, rfl, R, r1, r2, hm, q⟩ := h
  obtain ⟨i, j, rfl, rfl, e⟩ := cmpI_of (by simp) (by simp) (by simp) (by simp) hm r1 r2
  cases e
  exact op_ge pins s σ S.H _ _ v u Q I rx ry ⟨i, j, rfl, rfl, q⟩
end
end OI

/-! OIf: dicts, membership, subscripts, slices by values. -/
namespace OI
open PySem PySem.Spec PyProof.Rows L2
variable {c : Cn} {S : Wd} {s : Store}

theorem keyOf_V {k : D} {v : V} (h : k.flatKey = true) (r : RepD c S k v) : v = kV (keyOf k) := by
  cases k with
  | int i => exact r
  | str x => exact r
  | _ => cases h
theorem keyOf_inj {k k' : D} (h : k.flatKey = true) (h' : k'.flatKey = true) (e : keyOf k = keyOf k') : k = k' := by
  cases k with
  | int i =>
    cases k' with
    | int j => cases e; rfl
    | str y => cases e
    | _ => cases h'
  | str x =>
    cases k' with
    | int j => cases e
    | str y => cases e; rfl
    | _ => cases h'
  | _ => cases h
/-- the pairs as they lie -/
abbrev kpairs (kvs : List (D × D)) (vs : List V) : List (Key × V) := ((kvs.map (·.1)).zip vs).map fun q => (keyOf q.1, q.2)
theorem kget {k : D} (hk : k.flatKey = true) : ∀ {kvs : List (D × D)} {vs : List V}, RepKs c S false kvs vs →
    (∀ d, dget kvs k = some d → ∃ v, valV (kpairs kvs vs) (keyOf k) = some v ∧ RepD c S d v) ∧ (dget kvs k = none → valV (kpairs kvs vs) (keyOf k) = none)
  | [], _, h => by
    rw [show _ = [] from h]
    exact ⟨fun d e => (by cases e), fun _ => rfl⟩
  | (a, d) :: r, _, ⟨ha, v, w, e, h1, h2⟩ => by
    subst e
    obtain ⟨ih1, ih2⟩ := kget hk h2
    by_cases z : a = k
    · subst z
      have e1 : dget ((a, d) :: r) a = some d := by simp [dget]
      have e2 : valV (kpairs ((a, d) :: r) (v :: w)) (keyOf a) = some v := by simp [kpairs, valV]
      rw [e1, e2]
      exact ⟨fun d' q => ⟨v, rfl, by cases q; exact h1⟩, fun q => by cases q⟩
    · have e1 : dget ((a, d) :: r) k = dget r k := by simp [dget, z]
      have hne : ¬ keyOf a = keyOf k := fun q => z (keyOf_inj ha hk q)
      have e2 : valV (kpairs ((a, d) :: r) (v :: w)) (keyOf k) = valV (kpairs r w) (keyOf k) := by simp [kpairs, valV, hne]
      rw [e1, e2]
      exact ⟨ih1, ih2⟩
theorem dic_of {m : M} {v : V} {t : Bool} {kvs : List (D × D)} (h : m.dic? = some (t, kvs)) (r : RepV c S m v) : ∃ p vs, v = .ref p ∧ S.H p = some (dHO c p t (kvs.map (·.1)) vs) ∧ RepKs c S t kvs vs := by
  cases m with
  | val d =>
    cases d with
    | dic t' kvs' =>
      cases h
      obtain ⟨p, vs, e, h1, _, h2⟩ := r
      exact ⟨p, vs, e, h1, h2⟩
    | _ => cases h
  | ol xs => cases h
  | od t' kvs' =>
    cases h
    exact r
section
/-- what a dict gives for a key -/
theorem dget_ok {p : Addr} {kvs : List (D × D)} {vs : List V} {k : D} {y : V} (h : S.H p = some (dHO c p false (kvs.map (·.1)) vs)) (r : RepKs c S false kvs vs) (hk : keyOk false k = true) (rk : RepD c S k y) :
    ∃ o, DGet S.H p y o ∧ (∀ d, dget kvs k = some d → ∃ v, o = some v ∧ RepD c S d v) ∧ (dget kvs k = none → o = none) := by
  have hk : k.flatKey = true := hk
  obtain ⟨g1, g2⟩ := kget hk r
  exact ⟨valV (kpairs kvs vs) (keyOf k), .inl ⟨_, keyOf k, .inl h, keyOf_V hk rk, rfl⟩, g1, g2⟩
end

/-! ### dicts with tuples of tuples as keys -/
def RepN (c : Cn) (S : Wd) : List (D × D) → List (Addr × V) → Prop
  | [], ps => ps = []
  | (k, d) :: r, ps => ∃ q v t, ps = (q, v) :: t ∧ k.tupKey = true ∧ RepD c S k (.ref q) ∧ RepD c S d v ∧ RepN c S r t
theorem RepKs.toN : ∀ {kvs : List (D × D)} {vs : List V}, RepKs c S true kvs vs → ∃ ps ep, vs = NK.weave ps ep ∧ RepN c S kvs ps
  | [], _, ⟨ep, e⟩ => ⟨[], ep, e, rfl⟩
  | (k, d) :: r, _, ⟨hk, q, v, t, e, h1, h2, h3⟩ => by
    obtain ⟨ps, ep, e2, h4⟩ := RepKs.toN h3
    subst e2
    exact ⟨(q, v) :: ps, ep, e, q, v, ps, rfl, hk, h1, h2, h4⟩
theorem RepN.toKs {ep : Int} : ∀ {kvs : List (D × D)} {ps : List (Addr × V)}, RepN c S kvs ps → RepKs c S true kvs (NK.weave ps ep)
  | [], _, e => by rw [show _ = [] from e]; exact ⟨ep, rfl⟩
  | (k, d) :: r, _, ⟨q, v, t, e, hk, h1, h2, h3⟩ => by
    subst e
    exact ⟨hk, q, v, _, rfl, h1, h2, RepN.toKs h3⟩
theorem RepN.mono {S' : Wd} (f : Fr S S') : ∀ {kvs : List (D × D)} {ps : List (Addr × V)}, RepN c S kvs ps → RepN c S' kvs ps
  | [], _, e => e
  | (k, d) :: r, _, ⟨q, v, t, e, hk, h1, h2, h3⟩ => ⟨q, v, t, e, hk, h1.mono f, h2.mono f, RepN.mono f h3⟩
theorem RepN.length : ∀ {kvs : List (D × D)} {ps : List (Addr × V)}, RepN c S kvs ps → kvs.length = ps.length
  | [], _, e => by rw [show _ = [] from e]; rfl
  | (k, d) :: r, _, ⟨q, v, t, e, hk, h1, h2, h3⟩ => by
    subst e
    rw [List.length_cons, List.length_cons, RepN.length h3]
theorem RepN.len_keys {kvs : List (D × D)} {ps : List (Addr × V)} (h : RepN c S kvs ps) : ((kvs.map (·.1)).map nKey).length = ps.length := by rw [List.length_map, List.length_map, h.length]
theorem inKey_inj : ∀ {xs ys : List D}, xs.all D.isIn = true → ys.all D.isIn = true → inKey (.tup xs) = inKey (.tup ys) → xs = ys
  | [], [], _, _, _ => rfl
  | [], _ :: _, _, _, e => by cases e
  | _ :: _, [], _, _, e => by cases e
  | x :: xs, y :: ys, hx, hy, e => by
    rw [List.all_cons, Bool.and_eq_true] at hx hy
    replace e : (x :: xs).map intOf = (y :: ys).map intOf := e
    rw [List.map_cons, List.map_cons] at e
    injection e with e1 e2
    have ih := inKey_inj hx.2 hy.2 e2
    cases x <;> first | (cases hx.1; done) | skip
    cases y <;> first | (cases hy.1; done) | skip
    rename_i i j
    replace e1 : i = j := e1
    rw [e1, ih]
theorem nKey_inj {k k' : D} (h : k.tupKey = true) (h' : k'.tupKey = true) (e : nKey k = nKey k') : k = k' := by
  have main : ∀ {xs ys : List D}, xs.all D.tupIn = true → ys.all D.tupIn = true → xs.map inKey = ys.map inKey → xs = ys := by
    intro xs
    induction xs with
    | nil =>
      intro ys _ _ e
      cases ys with
      | nil => rfl
      | cons _ _ => cases e
    | cons x xs ih =>
      intro ys hx hy e
      cases ys with
      | nil => cases e
      | cons y ys =>
        rw [List.all_cons, Bool.and_eq_true] at hx hy
        rw [List.map_cons, List.map_cons] at e
        injection e with e1 e2
        have i2 := ih hx.2 hy.2 e2
        cases x <;> first | (cases hx.1; done) | skip
        cases y <;> first | (cases hy.1; done) | skip
        rw [inKey_inj hx.1 hy.1 e1, i2]
  cases k <;> first | (cases h; done) | skip
  cases k' <;> first | (cases h'; done) | skip
  rw [main h h' e]
theorem atN_dget {k : D} (hk : k.tupKey = true) : ∀ {kvs : List (D × D)} {ps : List (Addr × V)}, RepN c S kvs ps →
    (∀ d, dget kvs k = some d → ∃ v, NK.atN ((kvs.map (·.1)).map nKey) ps (nKey k) = some v ∧ RepD c S d v) ∧ (dget kvs k = none → NK.atN ((kvs.map (·.1)).map nKey) ps (nKey k) = none)
  | [], _, h => by
    rw [show _ = [] from h]
    exact ⟨fun d e => (by cases e), fun _ => rfl⟩
  | (a, d) :: r, _, ⟨q, v, t, e, ha, h1, h2, h3⟩ => by
    subst e
    obtain ⟨ih1, ih2⟩ := atN_dget hk h3
    by_cases z : a = k
    · subst z
      have e1 : dget ((a, d) :: r) a = some d := by simp [dget]
      have e2 : NK.atN ((((a, d) :: r).map (·.1)).map nKey) ((q, v) :: t) (nKey a) = some v := by simp [NK.atN]
      rw [e1, e2]
      exact ⟨fun d' q => ⟨v, rfl, by cases q; exact h2⟩, fun q => by cases q⟩
    · have e1 : dget ((a, d) :: r) k = dget r k := by simp [dget, z]
      have hne : ¬ nKey a = nKey k := fun q => z (nKey_inj ha hk q)
      have e2 : NK.atN ((((a, d) :: r).map (·.1)).map nKey) ((q, v) :: t) (nKey k) = NK.atN ((r.map (·.1)).map nKey) t (nKey k) := by simp [NK.atN, hne]
      rw [e1, e2]
      exact ⟨ih1, ih2⟩
theorem atN_some {k : D} (hk : k.tupKey = true) {kvs : List (D × D)} {ps : List (Addr × V)} (r : RepN c S kvs ps) : (NK.atN ((kvs.map (·.1)).map nKey) ps (nKey k)).isSome = (dget kvs k).isSome := by
  obtain ⟨g1, g2⟩ := atN_dget hk r
  cases w : dget kvs k with
  | none => rw [g2 w]; rfl
  | some d =>
    obtain ⟨v, e, _⟩ := g1 d w
    rw [e]; rfl
theorem dget_any {k : D} (kvs : List (D × D)) : (kvs.any fun p => decide (p.1 = k)) = (dget kvs k).isSome := by
  induction kvs with
  | nil => rfl
  | cons p r ih =>
    unfold dget at ih ⊢
    rw [List.any_cons, List.find?_cons]
    by_cases e : p.1 = k
    · simp [e]
    · simp [e, ih]
theorem putN_rep {k d : D} {q : Addr} {v : V} (hk : k.tupKey = true) (rk : RepD c S k (.ref q)) (rd : RepD c S d v) {kvs : List (D × D)} {ps : List (Addr × V)} (r : RepN c S kvs ps) :
    RepN c S (dput kvs k d) (NK.putN ((kvs.map (·.1)).map nKey) ps (nKey k) q v).2 ∧ (NK.putN ((kvs.map (·.1)).map nKey) ps (nKey k) q v).1 = ((dput kvs k d).map (·.1)).map nKey := by
  unfold NK.putN dput
  rw [dget_any, atN_some hk r]
  by_cases z : (dget kvs k).isSome = true
  · rw [if_pos z, if_pos z]
    clear z
    induction kvs generalizing ps with
    | nil => rw [show ps = [] from r]; exact ⟨rfl, rfl⟩
    | cons p0 r0 ih =>
      obtain ⟨a, d0⟩ := p0
      obtain ⟨q0, v0, t, e, ha, h1, h2, h3⟩ := r
      subst e
      obtain ⟨i1, i2⟩ := ih h3
      dsimp only at i2
      by_cases z : a = k
      · subst z
        simp only [List.map_cons, List.zip_cons_cons, if_true]
        exact ⟨⟨q0, v, _, rfl, ha, h1, rd, i1⟩, by rw [← i2]⟩
      · have hne : ¬ nKey a = nKey k := fun q => z (nKey_inj ha hk q)
        simp only [List.map_cons, List.zip_cons_cons, if_neg z, if_neg hne]
        exact ⟨⟨q0, v0, _, rfl, ha, h1, h2, i1⟩, by rw [← i2]⟩
  · rw [if_neg z, if_neg z]
    refine ⟨?_, by simp⟩
    clear z
    induction kvs generalizing ps with
    | nil =>
      rw [show ps = [] from r]
      exact ⟨q, v, [], rfl, hk, rk, rd, rfl⟩
    | cons p0 r0 ih =>
      obtain ⟨a, d0⟩ := p0
      obtain ⟨q0, v0, t, e, ha, h1, h2, h3⟩ := r
      subst e
      exact ⟨q0, v0, _, rfl, ha, h1, h2, ih h3⟩
section
variable {X : Cx} {pins : List (Addr × Obj)} {σ : L2.St} {sh : Shared}
theorem in_items (hK : X.K = c.K) (I : Inv X pins σ S.H sh) {q : Addr} {xs : List D} (h : xs.all D.isIn = true) (r : RepD c S (.tup xs) (.ref q)) : (tupleKind (intKind X.prog X.w)).is sh.heap (inKey (.tup xs)) q := by
  obtain ⟨p, vs, e, h1, h2⟩ := r
  cases e
  obtain ⟨its, rv, ⟨o, ho, hc, n, hd⟩, hz⟩ := I.tuple (by rw [hK]; exact h1.sq)
  clear hz
  refine ⟨o, its.toArray, n, ho, hc, hd, ?_⟩
  show ItemsAre _ (xs.map intOf) its
  clear h1 hd ho
  induction xs generalizing vs its with
  | nil =>
    rw [show vs = [] from h2] at rv
    cases rv
    exact .nil
  | cons x xs ih =>
    obtain ⟨v, r, ev, hv, h3⟩ := h2
    subst ev
    rw [List.all_cons, Bool.and_eq_true] at h
    cases rv with
    | @cons _ u _ us r1 t =>
      cases x <;> first | (cases h.1; done) | skip
      cases hv
      obtain ⟨tk, rfl⟩ := r1
      exact .cons (by simp [intKind, Value.isInt, intOf]) (ih h.2 _ h3 _ t)
theorem nk_is (hK : X.K = c.K) (I : Inv X pins σ S.H sh) {q : Addr} {k : D} (h : k.tupKey = true) (r : RepD c S k (.ref q)) : (NK.nk X.prog X.w).is sh.heap (nKey k) q := by
  cases k <;> first | (cases h; done) | skip
  rename_i xs
  obtain ⟨p, vs, e, h1, h2⟩ := r
  cases e
  obtain ⟨its, rv, ⟨o, ho, hc, n, hd⟩, hz⟩ := I.tuple (by rw [hK]; exact h1.sq)
  clear hz
  refine ⟨o, its.toArray, n, ho, hc, hd, ?_⟩
  show NK.NItems _ _ (xs.map inKey) its
  clear h1 hd ho
  replace h : xs.all D.tupIn = true := h
  induction xs generalizing vs its with
  | nil =>
    rw [show vs = [] from h2] at rv
    cases rv
    exact .nil
  | cons x xs ih =>
    obtain ⟨v, r, ev, hv, h3⟩ := h2
    subst ev
    rw [List.all_cons, Bool.and_eq_true] at h
    cases rv with
    | @cons _ u _ us r1 t =>
      cases x <;> first | (cases h.1; done) | skip
      obtain ⟨p', vs', e', h1', h2'⟩ := id hv
      subst e'
      cases r1
      exact .cons (in_items hK I h.1 hv) (ih _ h3 _ t h.2)
theorem keys_is (hK : X.K = c.K) (I : Inv X pins σ S.H sh) : ∀ {kvs : List (D × D)} {ps : List (Addr × V)}, RepN c S kvs ps → NK.Keys X.prog X.w sh.heap ((kvs.map (·.1)).map nKey) ps
  | [], _, e => by rw [show _ = [] from e]; exact .nil
  | (k, d) :: r, _, ⟨q, v, t, e, hk, h1, h2, h3⟩ => by
    subst e
    exact .cons (nk_is hK I hk h1) (keys_is hK I h3)
theorem tup_ref {k : D} {y : V} (h : k.tupKey = true) (r : RepD c S k y) : ∃ q, y = .ref q := by
  cases k <;> first | (cases h; done) | skip
  obtain ⟨p, vs, e, _⟩ := r
  exact ⟨p, e⟩
end

/-! ### in -/
theorem flat_V {d : D} {v : V} (h : d.flat = true) (r : RepD c S d v) : flatV v = true := by
  cases d <;> first | (cases r; rfl) | cases h
theorem flat_eqv {d e : D} {v w : V} (hd : d.flat = true) (he : e.flat = true) (rd : RepD c S d v) (re : RepD c S e w) : eqV v w = eqv d e := by
  cases d <;> first | cases hd | skip
  all_goals (cases e <;> first | cases he | skip)
  all_goals (cases rd; cases re; rfl)
theorem flats_V : ∀ {ds : List D} {vs : List V}, ds.all D.flat = true → RepDs c S ds vs → vs.all flatV = true
  | [], _, _, h => by rw [show _ = [] from h]; rfl
  | d :: ds, _, hf, ⟨v, r, e, h1, h2⟩ => by
    subst e
    rw [List.all_cons, Bool.and_eq_true] at hf ⊢
    exact ⟨flat_V hf.1 h1, flats_V hf.2 h2⟩
theorem any_eqv {d : D} {v : V} (hd : d.flat = true) (rd : RepD c S d v) : ∀ {ds : List D} {vs : List V}, ds.all D.flat = true → RepDs c S ds vs → inV v vs = ds.any fun y => eqv y d
  | [], _, _, h => by rw [show _ = [] from h]; rfl
  | e :: ds, _, hf, ⟨w, r, q, h1, h2⟩ => by
    subst q
    rw [List.all_cons, Bool.and_eq_true] at hf
    have ih := any_eqv hd rd hf.2 h2
    unfold inV at ih ⊢
    rw [List.any_cons, List.any_cons, ih, flat_eqv hf.1 hd h1 rd]
theorem toPys_map : ∀ ds : List D, toPys ds = ds.map toPy
  | [] => rfl
  | d :: ds => by rw [toPys, List.map_cons, toPys_map ds]

inductive InHow (c : Cn) (S : Wd) (x y : V) (b : Bool) : Prop where
  | sign (n : Nat) (z : Str) : x = .str ⟨#[n]⟩ → y = .str z → b = decide (n ∈ z.cps.toList) → InHow c S x y b
  | dic (p : Addr) (t : Bool) (kvs : List (D × D)) (vs : List V) (k : D) : y = .ref p → S.H p = some (dHO c p t (kvs.map (·.1)) vs) → RepKs c S t kvs vs → keyOk t k = true → RepD c S k x → b = (dget kvs k).isSome → InHow c S x y b
  | flat (p : Addr) (vs : List V) : y = .ref p → (SqL c.K S.H p vs ∨ SqT c.K S.H p vs) → flatV x = true → vs.all flatV = true → b = inV x vs → InHow c S x y b
  | deep (d : PyData) (ds : List PyData) : Dp c.K S.H x d → Dp c.K S.H y (.list ds) → SeqAt.shaped d = true → (PyData.list ds).canLay0 = true → b = (ds.any fun z => PyData.eqv z d) → InHow c S x y b
theorem sign_eq {x : Str} (h : x.length = 1) : x = ⟨#[x.cps.getD 0 0]⟩ := by
  obtain ⟨a⟩ := x
  have h : a.size = 1 := h
  obtain ⟨l⟩ := a
  cases l with
  | nil => simp at h
  | cons q r =>
    cases r with
    | nil => rfl
    | cons q2 r2 => simp at h
theorem lst_toPy {m : M} {ds : List D} {v : V} (h : m.lst? = some ds) (r : RepV c S m v) (l : (D.lst ds).lay = true) : Dp c.K S.H v (.list (toPys ds)) := by
  have hl : (toPy m.frz).canLay0 = true := by
    cases m with
    | val d =>
      cases d with
      | lst xs => cases h; exact l
      | scr ns =>
        cases h
        simp only [M.frz, toPy, PyData.canLay0]
        clear r l
        induction ns with
        | nil => rfl
        | cons n ns ih => simp [PyData.canLayAll0, PyData.canLay0, ih]
      | _ => cases h
    | ol xs => cases h; exact l
    | od t kvs => cases h
  have e : toPy m.frz = .list (toPys ds) := by
    cases m with
    | val d =>
      cases d with
      | lst xs => cases h; rfl
      | scr ns =>
        cases h
        rw [toPys_map, List.map_map]
        rfl
      | _ => cases h
    | ol xs => cases h; rfl
    | od t kvs => cases h
  rw [← e]
  exact dpv_of r hl
theorem isIn_how {m1 m2 : M} {b : Bool} {x y : V} (h : isIn m1 m2 = some b) (r1 : RepV c S m1 x) (r2 : RepV c S m2 y) : InHow c S x y b := by
  unfold isIn at h
  split at h
  · rename_i d
    split at h
    · rename_i z
      split at h
      · rename_i w
        split at h
        · rename_i h1
          cases h
          cases r1
          cases r2
          refine .sign (w.cps.getD 0 0) z (by rw [← sign_eq h1]) rfl rfl
        · cases h
      · cases h
    · split at h
      · rename_i t kvs hd
        split at h
        · rename_i hk
          cases h
          obtain ⟨p, vs, e, h1, h2⟩ := dic_of hd r2
          exact .dic p t kvs vs d e h1 h2 hk r1 rfl
        · cases h
      · split at h
        · rename_i ys hs
          split at h
          · rename_i hf
            cases h
            rw [Bool.and_eq_true] at hf
            obtain ⟨p, vs, e, h1, h2⟩ := seq_of hs r2
            exact .flat p vs e h1 (flat_V hf.1 r1) (flats_V hf.2 h2) (any_eqv hf.1 r1 hf.2 h2).symm
          · split at h
            · rename_i hf
              cases h
              simp only [Bool.and_eq_true, decide_eq_true_eq] at hf
              obtain ⟨⟨⟨l0, l1⟩, l2⟩, l3⟩ := hf
              obtain ⟨ys', hy⟩ := Option.isSome_iff_exists.mp l0
              have e : ys' = ys := by
                have h2 : M.seq? m2 = some ys := hs
                cases m2 with
                | val d' =>
                  cases d' with
                  | tup xs => cases hy
                  | lst xs => cases hy; cases h2; rfl
                  | scr xs => cases hy; cases h2; rfl
                  | _ => cases hy
                | ol xs => cases hy; cases h2; rfl
                | od t kvs => cases hy
              subst e
              refine .deep (toPy d) (toPys ys') (dp_of S r1 l1) (lst_toPy hy r2 l2) (by
                unfold SeqAt.shaped
                rw [Bool.and_eq_true]
                exact ⟨l1, decide_eq_true (by unfold D.deep at l3; omega)⟩) (by simpa [D.lay, toPy] using l2) ?_
              rw [toPys_map, List.any_map]
              rfl
            · cases h
        · cases h
  · cases h
section
variable {X : Cx}
theorem v_in (hK : X.K = c.K) (hu : X.A.units + 65 < cLine) : OpR X (compareOp .In) (R2b c (cmp .isin)) := by
  intro pins s σ H x y v u Q I rx ry h
  obtain ⟨S, st, m1, m2, b, rfl, R, r1, r2, hm, q⟩ := h
  rcases isIn_how (show isIn m1 m2 = some b from hm) r1 r2 with ⟨n, z, rfl, rfl, rfl⟩ | ⟨p, t, kvs, vs, k, rfl, h1, h2, hk, rk, rfl⟩ | ⟨p, vs, rfl, h1, h2, h3, rfl⟩ | ⟨d, ds, h1, h2, h3, h4, rfl⟩
  · exact op_in_sign pins s σ S.H _ _ v u Q I rx ry ⟨n, z, rfl, rfl, q⟩
  · cases ry
    cases t with
    | true =>
      obtain ⟨ps, ep, hv, rn⟩ := h2.toN
      obtain ⟨a, rfl⟩ := tup_ref hk rk
      cases rx
      exact NK.n_in (by omega) I h1 hv (keys_is hK I rn) (nk_is hK I hk rk) fun s' I' => ⟨.bl _, S.H, I', by rw [atN_some hk rn]; rfl, q⟩
    | false =>
    obtain ⟨o, g, g1, g2⟩ := dget_ok h1 h2 hk rk
    have e : o.isSome = (dget kvs k).isSome := by
      cases w : dget kvs k with
      | none => rw [g2 w]; rfl
      | some d =>
        obtain ⟨v', e, _⟩ := g1 d w
        rw [e]; rfl
    exact d_in (by omega) I g rx fun s' I' => ⟨.bl _, S.H, I', by rw [e]; rfl, q⟩
  · exact op_in_seq pins s σ S.H _ _ v u Q I rx ry ⟨p, vs, rfl, by rw [hK]; exact h1, h2, h3, q⟩
  · rw [← hK] at h1 h2
    obtain ⟨as, r1⟩ := Dp.reads I d x v h1 rx
    obtain ⟨bs, r2⟩ := Dp.reads I (.list ds) y u h2 ry
    exact SeqAt.in_list_reads r2 r1 h4 (SeqAt.canLay_of_shaped h3) (room_in_shaped h3 hu) ⟨.bl _, S.H, I, rfl, q⟩
theorem v_nin (hK : X.K = c.K) (hu : X.A.units + 65 < cLine) : OpR X (compareOp .NotIn) (R2b c (cmp .nin)) := by
  intro pins s σ H x y v u Q I rx ry h
  obtain ⟨S, st, m1, m2, b, rfl, R, r1, r2, hm, q⟩ := h
  have hm : (isIn m1 m2).map (fun c => !c) = some b := hm
  cases e : isIn m1 m2 with
  | none => rw [e] at hm; cases hm
  | some b' =>
    rw [e] at hm
    cases hm
    rcases isIn_how e r1 r2 with ⟨n, z, rfl, rfl, rfl⟩ | ⟨p, t, kvs, vs, k, rfl, h1, h2, hk, rk, rfl⟩ | ⟨p, vs, rfl, h1, h2, h3, rfl⟩ | ⟨d, ds, h1, h2, h3, h4, rfl⟩
    · exact op_notIn_sign pins s σ S.H _ _ v u Q I rx ry ⟨n, z, rfl, rfl, q⟩
    · cases ry
      cases t with
      | true =>
        obtain ⟨ps, ep, hv, rn⟩ := h2.toN
        obtain ⟨a, rfl⟩ := tup_ref hk rk
        cases rx
        exact NK.n_notIn (by omega) I h1 hv (keys_is hK I rn) (nk_is hK I hk rk) fun s' I' => ⟨.bl _, S.H, I', by rw [atN_some hk rn]; rfl, q⟩
      | false =>
      obtain ⟨o, g, g1, g2⟩ := dget_ok h1 h2 hk rk
      have e : o.isSome = (dget kvs k).isSome := by
        cases w : dget kvs k with
        | none => rw [g2 w]; rfl
        | some d =>
          obtain ⟨v', e, _⟩ := g1 d w
          rw [e]; rfl
      exact d_notIn (by omega) I g rx fun s' I' => ⟨.bl _, S.H, I', by rw [e]; rfl, q⟩
    · exact op_notIn_seq pins s σ S.H _ _ v u Q I rx ry ⟨p, vs, rfl, by rw [hK]; exact h1, h2, h3, q⟩
    · rw [← hK] at h1 h2
      obtain ⟨as, r1⟩ := Dp.reads I d x v h1 rx
      obtain ⟨bs, r2⟩ := Dp.reads I (.list ds) y u h2 ry
      exact SeqAt.notIn_list_reads r2 r1 h4 (SeqAt.canLay_of_shaped h3) (room_in_shaped h3 hu) ⟨.bl _, S.H, I, rfl, q⟩

/-! ### a[i] -/
/-- by values: the answer is data that stands already -/
def R2d (c : Cn) (k : M → M → Option D) : R2 := fun x y H Q => ∃ S s m1 m2 d, S.H = H ∧ RlS c S s ∧ RepV c S m1 x ∧ RepV c S m2 y ∧ k m1 m2 = some d ∧ ∀ v, RepD c S d v → Q v H
theorem atI_rep {ds : List D} {vs : List V} {i : Int} {d : D} (r : RepDs c S ds vs) (h : L2.atI ds i = some d) : ∃ v, L2.atI vs i = some v ∧ RepD c S d v := by
  unfold L2.atI at h ⊢
  rw [r.length]
  cases e : L2.ixN ds.length i with
  | none => rw [e] at h; cases h
  | some j =>
    rw [e] at h
    obtain ⟨v, h1, h2⟩ := r.get (show ds[j]? = some d from h)
    exact ⟨v, h1, h2⟩
theorem v_index (hK : X.K = c.K) (hu : X.A.units + 65 < cLine) : IxR X (R2d c index) := by
  intro value slice pins s σ H x y v u Q I rx ry h hs
  obtain ⟨S, st, m1, m2, d, rfl, R, r1, r2, hm, q⟩ := h
  unfold index at hm
  split at hm
  · split at hm
    · rename_i z i hl
      unfold strAt at hm
      cases e : L2.atI z.cps.toList i with
      | none => rw [e] at hm; cases hm
      | some n =>
        rw [e] at hm
        cases hm
        cases r1
        cases r2
        exact ix_str value slice pins s σ S.H _ _ v u Q I rx ry ⟨z, i, n, rfl, rfl, lim_le hl, e, q _ rfl⟩ hs
    · cases hm
  · rename_i k _ _
    split at hm
    · rename_i xs e
      split at hm
      · rename_i i
        obtain ⟨p, vs, rfl, h1, h2⟩ := seq_of e r1
        cases r2
        obtain ⟨w, g1, g2⟩ := atI_rep h2 hm
        rcases h1 with h1 | h1
        · exact ix_list value slice pins s σ S.H _ _ v u Q I rx ry ⟨p, vs, _, w, rfl, rfl, by rw [hK]; exact h1, g1, q w g2⟩ hs
        · exact ix_tup value slice pins s σ S.H _ _ v u Q I rx ry ⟨p, vs, _, w, rfl, rfl, by rw [hK]; exact h1, g1, q w g2⟩ hs
      · cases hm
    · split at hm
      · rename_i t kvs e
        split at hm
        · rename_i hk
          obtain ⟨p, vs, rfl, h1, h2⟩ := dic_of e r1
          cases rx
          cases t with
          | true =>
            obtain ⟨ps, ep, hv, rn⟩ := h2.toN
            obtain ⟨a, rfl⟩ := tup_ref hk r2
            cases ry
            obtain ⟨w, hw, g2⟩ := (atN_dget hk rn).1 d hm
            exact tail_any (NK.dic_type I h1).1 PySem.F.slot_dict_getitem.lookup (NK.n_getItem (by omega) I h1 hv (keys_is hK I rn) (nk_is hK I hk r2) hw fun w' s' I' r' => ⟨w, S.H, I', r', q w g2⟩) hs
          | false =>
          obtain ⟨o, g, g1, _⟩ := dget_ok h1 h2 hk r2
          obtain ⟨w, rfl, g2⟩ := g1 d hm
          exact tail_any (dict_typeIs I g) PySem.F.slot_dict_getitem.lookup (d_getItem (by omega) I g ry fun w' s' I' r' => ⟨w, S.H, I', r', q w g2⟩) hs
        · cases hm
      · cases hm
  · cases hm
end
end OI

/-! OIg: built-in functions and methods by values. -/
namespace OI
open PySem PySem.Spec PyProof.Rows L2
variable {c : Cn} {S : Wd} {s : Store}

def R1c (c : Cn) (k : M → Option M) : List V → Hp → VK → Prop := fun xs H Q => ∃ S s m1 x m, xs = [x] ∧ S.H = H ∧ RlS c S s ∧ RepV c S m1 x ∧ k m1 = some m ∧ ∀ S' v, Al c S S' → RepM c S' .tmp m v → Q v S'.H
def R2c (c : Cn) (k : M → M → Option M) : List V → Hp → VK → Prop := fun xs H Q => ∃ S s m1 m2 x y m, xs = [x, y] ∧ S.H = H ∧ RlS c S s ∧ RepV c S m1 x ∧ RepV c S m2 y ∧ k m1 m2 = some m ∧ ∀ S' v, Al c S S' → RepM c S' .tmp m v → Q v S'.H
def R3c (c : Cn) (k : M → M → M → Option M) : List V → Hp → VK → Prop := fun xs H Q => ∃ S s m1 m2 m3 x y z m, xs = [x, y, z] ∧ S.H = H ∧ RlS c S s ∧ RepV c S m1 x ∧ RepV c S m2 y ∧ RepV c S m3 z ∧ k m1 m2 m3 = some m ∧ ∀ S' v, Al c S S' → RepM c S' .tmp m v → Q v S'.H

theorem ints_of : ∀ {ds : List D} {vs : List V} {ns : List Int}, ints? ds = some ns → RepDs c S ds vs → vs = ns.map V.int
  | [], _, _, h, r => by cases h; exact r
  | d :: ds, _, ns, h, ⟨v, r, e, h1, h2⟩ => by
    subst e
    cases d with
    | int i =>
      unfold ints? at h
      cases w : ints? ds with
      | none => rw [w] at h; cases h
      | some ms =>
        rw [w] at h
        cases h
        rw [ints_of w h2, show v = V.int i from h1]
        rfl
    | _ => cases h
theorem strs_of : ∀ {ds : List D} {vs : List V} {ns : List Str}, strs? ds = some ns → RepDs c S ds vs → vs = ns.map V.str
  | [], _, _, h, r => by cases h; exact r
  | d :: ds, _, ns, h, ⟨v, r, e, h1, h2⟩ => by
    subst e
    cases d with
    | str i =>
      unfold strs? at h
      cases w : strs? ds with
      | none => rw [w] at h; cases h
      | some ms =>
        rw [w] at h
        cases h
        rw [strs_of w h2, show v = V.str i from h1]
        rfl
    | _ => cases h
theorem lints_of {m : M} {v : V} {ns : List Int} (h : m.lst?.bind ints? = some ns) (r : RepV c S m v) : ∃ p, v = .ref p ∧ SqL c.K S.H p (ns.map V.int) := by
  cases e : m.lst? with
  | none => rw [e] at h; cases h
  | some ds =>
    rw [e] at h
    obtain ⟨p, vs, e1, h1, h2⟩ := lst_of e r
    rw [ints_of h h2] at h1
    exact ⟨p, e1, h1⟩
theorem sints_of {m : M} {v : V} {ns : List Int} (h : m.seq?.bind ints? = some ns) (r : RepV c S m v) : ∃ p, v = .ref p ∧ (SqL c.K S.H p (ns.map V.int) ∨ SqT c.K S.H p (ns.map V.int)) := by
  cases e : m.seq? with
  | none => rw [e] at h; cases h
  | some ds =>
    rw [e] at h
    obtain ⟨p, vs, e1, h1, h2⟩ := seq_of e r
    rw [ints_of h h2] at h1
    exact ⟨p, e1, h1⟩
theorem maxI_mem : ∀ (n : Int) (ns : List Int), maxI (n :: ns) ∈ n :: ns ∧ ∀ a ∈ n :: ns, a ≤ maxI (n :: ns)
  | n, [] => ⟨by simp [maxI], fun a h => by simp at h; simp [maxI, h]⟩
  | n, m :: ns => by
    obtain ⟨h1, h2⟩ := maxI_mem m ns
    have e : maxI (n :: m :: ns) = max n (maxI (m :: ns)) := rfl
    rw [e]
    refine ⟨?_, fun a h => ?_⟩
    · rcases Int.le_total n (maxI (m :: ns)) with l | l
      · rw [Int.max_eq_right l]; exact List.mem_cons_of_mem _ h1
      · rw [Int.max_eq_left l]; exact List.mem_cons_self
    · rcases List.mem_cons.mp h with q | q
      · rw [q]; omega
      · have := h2 a q
        omega
theorem minI_mem : ∀ (n : Int) (ns : List Int), minI (n :: ns) ∈ n :: ns ∧ ∀ a ∈ n :: ns, minI (n :: ns) ≤ a
  | n, [] => ⟨by simp [minI], fun a h => by simp at h; simp [minI, h]⟩
  | n, m :: ns => by
    obtain ⟨h1, h2⟩ := minI_mem m ns
    have e : minI (n :: m :: ns) = min n (minI (m :: ns)) := rfl
    rw [e]
    refine ⟨?_, fun a h => ?_⟩
    · rcases Int.le_total n (minI (m :: ns)) with l | l
      · rw [Int.min_eq_left l]; exact List.mem_cons_self
      · rw [Int.min_eq_right l]; exact List.mem_cons_of_mem _ h1
    · rcases List.mem_cons.mp h with q | q
      · rw [q]; omega
      · have := h2 a q
        omega
theorem insI_perm (a : Int) : ∀ l : List Int, (insI a l).Perm (a :: l)
  | [] => .refl _
  | b :: r => by
    unfold insI
    split
    · exact .refl _
    · exact ((insI_perm a r).cons b).trans (.swap a b r)
theorem sortI_perm : ∀ l : List Int, (sortI l).Perm l
  | [] => .refl _
  | a :: r => (insI_perm a (sortI r)).trans ((sortI_perm r).cons a)
theorem insI_pw (a : Int) : ∀ {l : List Int}, l.Pairwise (· ≤ ·) → (insI a l).Pairwise (· ≤ ·)
  | [], _ => List.pairwise_singleton _ _
  | b :: r, h => by
    unfold insI
    have h' := List.pairwise_cons.mp h
    split
    · rename_i hab
      exact List.pairwise_cons.mpr ⟨fun x hx => by
        rcases List.mem_cons.mp hx with q | q
        · rw [q]; exact hab
        · exact Int.le_trans hab (h'.1 x q), h⟩
    · rename_i hab
      refine List.pairwise_cons.mpr ⟨fun x hx => ?_, insI_pw a h'.2⟩
      rcases List.mem_cons.mp ((insI_perm a r).mem_iff.mp hx) with q | q
      · rw [q]; omega
      · exact h'.1 x q
theorem sortI_pw : ∀ l : List Int, (sortI l).Pairwise (· ≤ ·)
  | [] => .nil
  | a :: r => insI_pw a (sortI_pw r)
theorem sorted_one {l l' : List Int} (h : l.Perm l') (a : l.Pairwise (· ≤ ·)) (b : l'.Pairwise (· ≤ ·)) : l = l' :=
  h.eq_of_pairwise (le := fun x y => x ≤ y) (fun x y _ _ h1 h2 => Int.le_antisymm h1 h2) a b

section
variable {X : Cx}
theorem sum_tuple_raw {prog : Program} {w : World} {A : Around} {E : Value → Shared → Prop} {s : Shared} {l : Addr} {its : List Value} {ns : List Int} {Q : Value → Shared → Prop} (hh : A.handled = none) (hl : IsTup s.heap l its.toArray) (hi : IntsAre its ns)
    (h : ∀ h' tk t', (∀ b o, s.heap.get? b = some o → h'.get? b = some o) → Q (.int ns.sum t') { s with heap := h', toks := tk }) : wpAny (model prog w) A (call (.builtin "sum") [.ref l]) Q E s := by
  obtain ⟨xs, e⟩ := hi.allInts.items
  have hn : numsOf (intItems xs).toList = ns := by rw [← e]; exact hi.numsOf
  rw [nums_intItems] at hn
  rw [e] at hl
  have hT : s.heap.IsTuple l (intItems xs) := hl
  refine PySem.call_sum_walkG (wpAny_pyIter_tuple hT ?_)
  have hlt : l < s.heap.objs.size := hl.lt
  refine ⟨s.heap.objs.size, [s.heap.objs.size, l], [s.heap.objs.size], _, _, _, numAt xs, rfl, Walks.tuple (A := A.in1) hh _ l (Nat.ne_of_lt hlt) (intItems xs), ⟨⟨_, Heap.get?_push_size _ rfl, rfl, rfl⟩, hT.push _⟩, fun b hb => ?_, (fun _ _ => intItems_at), fun h' tk t' hk => ?_⟩
  · show b < (s.heap.push _).objs.size
    rw [Heap.size_push]
    rcases List.mem_cons.mp hb with rfl | hb
    · exact Nat.lt_succ_self _
    · rw [List.mem_singleton.mp hb]; exact Nat.lt_succ_of_lt hlt
  · have := h h' tk t' fun b o e => hk b o (fun hm => by rw [List.mem_singleton.mp hm] at e; exact Nat.lt_irrefl _ (Heap.lt_size e)) (Heap.get?_push_of_some _ e)
    have e2 : preSum (numAt xs) (intItems xs).size = ns.sum := by
      rw [preSum_eq, List.take_of_length_le (by simp [intItems]), hn]
    rw [e2]
    exact this

theorem b_len (hK : X.K = c.K) : CallR X (.builtin "len") (R1c c (bi1 "len")) := by
  intro pins s σ H xs us Q I rs h
  obtain ⟨S, st, m1, x, m, rfl, rfl, R, r1, hm, q⟩ := h
  unfold bi1 at hm
  simp only at hm
  split at hm
  · split at hm
    · rename_i z hl
      cases hm
      cases r1
      exact call_len_str pins s σ S.H _ us Q I rs ⟨z, rfl, lim_le hl, q S _ (Al.refl R) rfl⟩
    · cases hm
  · split at hm
    · rename_i ys e
      cases hm
      obtain ⟨p, vs, rfl, h1, h2⟩ := seq_of e r1
      refine call_len_seq pins s σ S.H _ us Q I rs ⟨p, vs, rfl, by rw [hK]; exact h1, ?_⟩
      rw [h2.length]
      exact q S _ (Al.refl R) rfl
    · cases hm
theorem b_sum (hK : X.K = c.K) (hc : X.calm = true) : CallR X (.builtin "sum") (R1c c (bi1 "sum")) := by
  intro pins s σ H xs us Q I rs h
  obtain ⟨S, st, m1, x, m, rfl, rfl, R, r1, hm, q⟩ := h
  unfold bi1 at hm
  simp only at hm
  split at hm
  · rename_i ns e
    cases hm
    obtain ⟨p, rfl, h1⟩ := sints_of e r1
    have fin := q S _ (Al.refl R) (show RepM c S .tmp (.val (.int ns.sum)) (.int ns.sum) from rfl)
    rcases h1 with h1 | h1
    · exact cr_sum hc pins s σ S.H _ us Q I rs ⟨p, ns, rfl, by rw [hK]; exact h1, fin⟩
    · rw [← hK] at h1
      obtain ⟨its, rv, ht, _⟩ := I.tuple h1
      rw [Vals.ref1 rs]
      exact sum_tuple_raw (I.ok.hd hc) ht rv.ints fun h' tk t' k => ⟨.int ns.sum, S.H, I.kept k, ⟨_, rfl⟩, fin⟩
  · cases hm
theorem b_max1 (hK : X.K = c.K) (hc : X.calm = true) : CallR X (.builtin "max") (R1c c (bi1 "max")) := by
  intro pins s σ H xs us Q I rs h
  obtain ⟨S, st, m1, x, m, rfl, rfl, R, r1, hm, q⟩ := h
  unfold bi1 at hm
  simp only at hm
  split at hm
  · rename_i n ns e
    cases hm
    obtain ⟨p, rfl, h1⟩ := lints_of e r1
    obtain ⟨g1, g2⟩ := maxI_mem n ns
    refine cr_max hc pins s σ S.H _ us Q I rs ⟨p, n :: ns, rfl, by rw [hK]; exact h1, by simp, fun k k1 k2 => ?_⟩
    have e : k = maxI (n :: ns) := Int.le_antisymm (g2 k k1) (k2 _ g1)
    rw [e]
    exact q S _ (Al.refl R) rfl
  · cases hm
theorem b_min1 (hK : X.K = c.K) (hc : X.calm = true) : CallR X (.builtin "min") (R1c c (bi1 "min")) := by
  intro pins s σ H xs us Q I rs h
  obtain ⟨S, st, m1, x, m, rfl, rfl, R, r1, hm, q⟩ := h
  unfold bi1 at hm
  simp only at hm
  split at hm
  · rename_i n ns e
    cases hm
    obtain ⟨p, rfl, h1⟩ := lints_of e r1
    obtain ⟨g1, g2⟩ := minI_mem n ns
    refine cr_min hc pins s σ S.H _ us Q I rs ⟨p, n :: ns, rfl, by rw [hK]; exact h1, by simp, fun k k1 k2 => ?_⟩
    have e : k = minI (n :: ns) := Int.le_antisymm (k2 _ g1) (g2 k k1)
    rw [e]
    exact q S _ (Al.refl R) rfl
  · cases hm
theorem b_sorted (hK : X.K = c.K) : CallR X (.builtin "sorted") (R1c c (bi1 "sorted")) := by
  intro pins s σ H xs us Q I rs h
  obtain ⟨S, st, m1, x, m, rfl, rfl, R, r1, hm, q⟩ := h
  unfold bi1 at hm
  simp only at hm
  split at hm
  · rename_i ns e
    cases hm
    obtain ⟨p, rfl, h1⟩ := lints_of e r1
    refine cr_sortedI pins s σ S.H _ us Q I rs ⟨p, ns, rfl, by rw [hK]; exact h1, fun ns' a k1 k2 na => ?_⟩
    have e : ns' = sortI ns := sorted_one (k1.trans (sortI_perm ns).symm) k2 (sortI_pw ns)
    subst e
    have hlen := len_le I hK (.inl h1)
    obtain ⟨S', al, hH, rp⟩ := new_lst R na (RepDs.ints (sortI ns)) (by rw [List.length_map, (sortI_perm ns).length_eq]; rw [List.length_map] at hlen; exact hlen)
    have := q S' _ al rp
    rw [hH] at this
    exact this
  · cases hm
theorem b_list (hK : X.K = c.K) : CallR X (.type "list") (R1c c (bi1 "list")) := by
  intro pins s σ H xs us Q I rs h
  obtain ⟨S, st, m1, x, m, rfl, rfl, R, r1, hm, q⟩ := h
  unfold bi1 at hm
  simp only at hm
  split at hm
  · rename_i ys e
    cases hm
    obtain ⟨p, vs, rfl, h1, h2⟩ := seq_of e r1
    refine call_list_of pins s σ S.H _ us Q I rs ⟨p, vs, rfl, by rw [hK]; exact h1, fun a na => ?_⟩
    obtain ⟨S', al, hH, rp⟩ := new_lst R na h2 (len_le I hK h1)
    have := q S' _ al rp
    rw [hH] at this
    exact this
  · cases hm
theorem b_tuple (hK : X.K = c.K) : CallR X (.type "tuple") (R1c c (bi1 "tuple")) := by
  intro pins s σ H xs us Q I rs h
  obtain ⟨S, st, m1, x, m, rfl, rfl, R, r1, hm, q⟩ := h
  unfold bi1 at hm
  simp only at hm
  split at hm
  · rename_i ys e
    cases hm
    have other : ∀ p vs, x = V.ref p → SqL c.K S.H p vs → RepDs c S ys vs → wpAny (model X.prog X.w) X.A (call (.type "tuple") us) (EP X pins σ Q) X.xe s := fun p vs ex h1 h2 => by
      subst ex
      refine call_tuple_of pins s σ S.H _ us Q I rs ⟨p, vs, rfl, .inl ⟨by rw [hK]; exact h1, fun a na => ?_⟩⟩
      obtain ⟨S', al, hH, rp⟩ := new_tup R na h2 (len_le I hK (.inl h1))
      have := q S' _ al rp
      rw [hH] at this
      exact this
    cases m1 with
    | val d =>
      cases d with
      | tup zs =>
        cases e
        obtain ⟨p, vs, rfl, h1, h2⟩ := r1
        exact call_tuple_of pins s σ S.H _ us Q I rs ⟨p, vs, rfl, .inr ⟨by rw [hK]; exact h1.sq, q S _ (Al.refl R) ⟨p, vs, rfl, h1, h2⟩⟩⟩
      | lst zs =>
        obtain ⟨p, vs, rfl, h1, h2⟩ := lst_of (show M.lst? (.val (.lst zs)) = some ys from e) r1
        exact other p vs rfl h1 h2
      | scr zs =>
        obtain ⟨p, vs, rfl, h1, h2⟩ := lst_of (show M.lst? (.val (.scr zs)) = some ys from e) r1
        exact other p vs rfl h1 h2
      | _ => cases e
    | ol zs =>
      obtain ⟨p, vs, rfl, h1, h2⟩ := lst_of (show M.lst? (.ol zs) = some ys from e) r1
      exact other p vs rfl h1 h2
    | od t kvs => cases e
  · cases hm
theorem b_int : CallR X (.type "int") (R1c c (bi1 "int")) := by
  intro pins s σ H xs us Q I rs h
  obtain ⟨S, st, m1, x, m, rfl, rfl, R, r1, hm, q⟩ := h
  unfold bi1 at hm
  simp only at hm
  split at hm
  · cases hm
    cases r1
    exact call_int1 pins s σ S.H _ us Q I rs (.inl ⟨_, rfl, q S _ (Al.refl R) rfl⟩)
  · cases hm
    cases r1
    exact call_int1 pins s σ S.H _ us Q I rs (.inr ⟨_, rfl, q S _ (Al.refl R) rfl⟩)
  · split at hm
    · rename_i z hl
      cases e : PySem.intText? z with
      | none => rw [e] at hm; cases hm
      | some n =>
        rw [e] at hm
        cases hm
        cases r1
        exact call_int_str pins s σ S.H _ us Q I rs ⟨z, n, rfl, e, hl, q S _ (Al.refl R) rfl⟩
    · cases hm
  · cases hm
theorem b_str : CallR X (.type "str") (R1c c (bi1 "str")) := by
  intro pins s σ H xs us Q I rs h
  obtain ⟨S, st, m1, x, m, rfl, rfl, R, r1, hm, q⟩ := h
  unfold bi1 at hm
  simp only at hm
  split at hm
  · split at hm
    · rename_i i hl
      cases hm
      cases r1
      exact call_str_int pins s σ S.H _ us Q I rs ⟨i, rfl, hl, q S _ (Al.refl R) rfl⟩
    · cases hm
  · cases hm
theorem b_max2 (hc : X.calm = true) : CallR X (.builtin "max") (R2c c (bi2 "max")) := by
  intro pins s σ H xs us Q I rs h
  obtain ⟨S, st, m1, m2, x, y, m, rfl, rfl, R, r1, r2, hm, q⟩ := h
  unfold bi2 at hm
  simp only at hm
  split at hm
  · rename_i i j
    cases hm
    cases r1
    cases r2
    refine call_max2 hc pins s σ S.H _ us Q I rs ⟨_, _, rfl, ?_⟩
    have := q S _ (Al.refl R) (show RepM c S .tmp (.val (.int (max i j))) (.int (max i j)) from rfl)
    rw [show (if j > i then j else i) = max i j by split <;> omega]
    exact this
  · cases hm
theorem b_min2 (hc : X.calm = true) : CallR X (.builtin "min") (R2c c (bi2 "min")) := by
  intro pins s σ H xs us Q I rs h
  obtain ⟨S, st, m1, m2, x, y, m, rfl, rfl, R, r1, r2, hm, q⟩ := h
  unfold bi2 at hm
  simp only at hm
  split at hm
  · rename_i i j
    cases hm
    cases r1
    cases r2
    refine call_min2 hc pins s σ S.H _ us Q I rs ⟨_, _, rfl, ?_⟩
    have := q S _ (Al.refl R) (show RepM c S .tmp (.val (.int (min i j))) (.int (min i j)) from rfl)
    rw [show (if j < i then j else i) = min i j by split <;> omega]
    exact this
  · cases hm
theorem b_max3 (hc : X.calm = true) : CallR X (.builtin "max") (R3c c (bi3 "max")) := by
  intro pins s σ H xs us Q I rs h
  obtain ⟨S, st, m1, m2, m3, x, y, z, m, rfl, rfl, R, r1, r2, r3, hm, q⟩ := h
  unfold bi3 at hm
  simp only at hm
  split at hm
  · rename_i i j k
    cases hm
    cases r1
    cases r2
    cases r3
    have fin := q S _ (Al.refl R) (show RepM c S .tmp (.val (.int (max (max i j) k))) (.int (max (max i j) k)) from rfl)
    cases rs with
    | cons ra rs =>
      cases rs with
      | cons rb rs =>
        cases rs with
        | cons rc rs =>
          cases rs
          obtain ⟨t1, rfl⟩ := ra
          obtain ⟨t2, rfl⟩ := rb
          obtain ⟨t3, rfl⟩ := rc
          refine PySem.max_three_ints (I.ok.hd hc) fun h' tk hk => ⟨.int (max (max i j) k), S.H, I.kept hk, ?_, fin⟩
          show ∃ t, _ = Value.int (max (max i j) k) t
          by_cases h1 : j > i
          · rw [if_pos h1]
            by_cases h2 : k > j
            · rw [if_pos h2]; exact ⟨t3, by rw [show max (max i j) k = k by omega]⟩
            · rw [if_neg h2]; exact ⟨t2, by rw [show max (max i j) k = j by omega]⟩
          · rw [if_neg h1]
            by_cases h2 : k > i
            · rw [if_pos h2]; exact ⟨t3, by rw [show max (max i j) k = k by omega]⟩
            · rw [if_neg h2]; exact ⟨t1, by rw [show max (max i j) k = i by omega]⟩
  · cases hm
end
end OI

/-! OIg1: max(xs, default=d), of ints. -/
namespace OI.Mx
open PySem PyProof.Rows
set_option maxRecDepth 100000
theorem args_kw (a v : Value) : argsOk "max" ⟨[a], [(Str.ofString "default", v)]⟩ := by unfold argsOk; kernel_rfl
section
variable {prog : Program} {w : World} {A : Around} {R : Result → Shared → Prop} {I : Addr} {fp wr : List Addr} {n : Nat} {P : Nat → Value → Prop} {St : Nat → Heap → Prop}
/-- what the list of the best one holds behind j items -/
def Held (bt : Nat → Nat → Bool) (P : Nat → Value → Prop) (j : Nat) (best : Array Value) : Prop := (j = 0 ∧ best = #[]) ∨ ∃ vb, 0 < j ∧ best = #[vb, vb] ∧ P (argBest bt (j - 1)) vb
theorem loop (W : Walks prog w A.in1 I fp wr n P St) (bt : Nat → Nat → Bool) (hcmp : CmpOf prog w A.in1 .Gt P bt) (S : Addr) (hSf : S ∉ fp) (d : Value) :
    ∀ (k j : Nat) (s : Shared) (best : Array Value) (c : Nat), n - j = k → j ≤ n → St j s.heap → Held bt P j best → s.heap.get? S = some { cls := .type "list", dict := none, data := .seq best c, slots := #[] } →
    (∀ v h' tk, ((n = 0 ∧ v = d) ∨ (0 < n ∧ P (argBest bt (n - 1)) v)) → (∀ b o, b ∉ wr → b ≠ S → s.heap.get? b = some o → h'.get? b = some o) → R (.ok (.ret v)) { s with heap := h', toks := tk }) →
    codeAny (model prog w) A (.builtin "max.loop" ⟨[.ref I, .none, .ref S], [(Str.ofString "default", d)]⟩) R s := by
  have hSw : S ∉ wr := fun h => hSf (W.sub _ h)
  have hname : (toString "max" ++ toString ".loop" : String) = "max.loop" := by decide
  intro k
  induction k with
  | zero =>
    intro j s best c hk hj hst hB hS hR
    have hin : j = n := by omega
    subst hin
    refine codeAny_builtin F.entry_max_loop ?_
    rw [Around.under_plainId F.plain_max_loop _]
    show wpAny _ A.in1 (seqItems? (.ref S) >>= _) _ _ s
    refine wpAny_bind (wpAny_seqItems hS rfl ?_)
    rcases hB with ⟨h0, rfl⟩ | ⟨vb, h0, rfl, hP⟩
    · show wpAny _ A.in1 (tryCatch (pyNext (.ref I)) _ >>= _) _ _ s
      refine wpAny_bind (wpAny_tryCatch (W.done s _ _ hst fun h' tk hk' => ?_))
      refine wpAny_bind (wpAny_rule ?_)
      exact wpAny_pure (hR d _ tk (.inl ⟨h0, rfl⟩) fun b o hbw _ e => hk' b o hbw e)
    · show wpAny _ A.in1 (tryCatch (pyNext (.ref I)) _ >>= _) _ _ s
      refine wpAny_bind (wpAny_tryCatch (W.done s _ _ hst fun h' tk hk' => ?_))
      have hS' := hk' S _ hSw hS
      show wpAny _ A.in1 (updateSeq S (fun _ => #[]) >>= _) _ _ _
      refine wpAny_bind ?_
      refine wpAny_updateSeq hS' rfl (wpAny_bind (wpAny_letGo (wpAny_pure ?_)))
      exact hR vb _ tk (.inr ⟨h0, hP⟩) fun b o hbw hbS e => (Heap.get?_update_other _ _ (Ne.symm hbS)).trans (hk' b o hbw e)
  | succ k ih =>
    intro j s best c hk hj hst hB hS hR
    have hlt : j < n := by omega
    refine codeAny_builtin F.entry_max_loop ?_
    rw [Around.under_plainId F.plain_max_loop _]
    show wpAny _ A.in1 (seqItems? (.ref S) >>= _) _ _ s
    refine wpAny_bind (wpAny_seqItems hS rfl ?_)
    have put : ∀ (v : Value) (h' : Heap) (tk : Nat), P (argBest bt j) v → St (j + 1) h' → (∀ b o, b ∉ wr → s.heap.get? b = some o → h'.get? b = some o) → ∀ c', (h'.update S (Obj.mapSeq fun _ => #[v, v])).get? S = some { cls := .type "list", dict := none, data := .seq #[v, v] c', slots := #[] } → codeAny (model prog w) A (.builtin "max.loop" ⟨[.ref I, .none, .ref S], [(Str.ofString "default", d)]⟩) R { s with heap := h'.update S (Obj.mapSeq fun _ => #[v, v]), toks := tk } := fun v h' tk hP hst' hk' c' hg => by
      refine ih (j + 1) _ #[v, v] _ (by omega) (by omega) (W.frame _ _ _ hst' fun b hbf o e => ?_) (.inr ⟨v, by omega, rfl, hP⟩) hg fun v' h'' tk'' hP' hk'' => ?_
      · exact (Heap.get?_update_other _ _ (fun h : S = b => hSf (by rw [h]; exact hbf))).trans e
      · exact hR v' h'' tk'' hP' fun b o hbw hbS e => hk'' b o hbw hbS ((Heap.get?_update_other _ _ (Ne.symm hbS)).trans (hk' b o hbw e))
    rcases hB with ⟨h0, rfl⟩ | ⟨vb, h0, rfl, hPb⟩
    · subst h0
      show wpAny _ A.in1 (tryCatch (pyNext (.ref I)) _ >>= _) _ _ s
      refine wpAny_bind (wpAny_tryCatch (W.item 0 s _ _ hlt hst fun v h' tk hP hst' hk' => ?_))
      have hS' := hk' S _ hSw hS
      show wpAny _ A.in1 (updateSeq S (fun _ => #[v, v]) >>= _) _ _ _
      refine wpAny_bind ?_
      refine wpAny_updateSeq hS' rfl ?_
      rw [hname]
      exact wpAny_pure ⟨plainId_quiet F.plain_max_loop _, put v h' tk hP hst' hk' _ (Heap.get?_update_self _ hS' rfl)⟩
    · show wpAny _ A.in1 (tryCatch (pyNext (.ref I)) _ >>= _) _ _ s
      refine wpAny_bind (wpAny_tryCatch (W.item j s _ _ hlt hst fun v h' tk hP hst' hk' => ?_))
      have hS' := hk' S _ hSw hS
      show wpAny _ A.in1 (tryCatch (holding [v, v] (richCompare .Gt v vb >>= _)) _ >>= _) _ _ _
      refine wpAny_bind (wpAny_tryCatch (wpAny_holding (wpAny_bind (hcmp j (argBest bt (j - 1)) v vb _ _ _ hP hPb ?_))))
      refine wpAny_bind (wpAny_holding (wpAny_truthy_bool ?_))
      refine wpAny_bind (wpAny_letGo (wpAny_pure ?_))
      have hj1 : argBest bt j = if bt j (argBest bt (j - 1)) then j else argBest bt (j - 1) := by
        obtain ⟨i, rfl⟩ : ∃ i, j = i + 1 := ⟨j - 1, by omega⟩
        rfl
      cases hb : bt j (argBest bt (j - 1)) with
      | true =>
        rw [hb, if_pos rfl] at hj1
        simp only [if_true]
        refine wpAny_bind ?_
        refine wpAny_updateSeq hS' rfl (wpAny_bind (wpAny_letGo ?_))
        rw [hname]
        exact wpAny_pure ⟨plainId_quiet F.plain_max_loop _, put v h' tk (by rw [hj1]; exact hP) hst' hk' _ (Heap.get?_update_self _ hS' rfl)⟩
      | false =>
        rw [hb, if_neg (by simp)] at hj1
        simp only [Bool.false_eq_true, if_false]
        refine wpAny_bind (wpAny_letGo ?_)
        rw [hname]
        refine wpAny_pure ⟨plainId_quiet F.plain_max_loop _, ih (j + 1) _ #[vb, vb] c (by omega) (by omega) hst' (.inr ⟨vb, by omega, rfl, ?_⟩) hS' fun v' h'' tk'' hP' hk'' => ?_⟩
        · show P (argBest bt j) vb
          rw [hj1]; exact hPb
        · exact hR v' h'' tk'' hP' fun b o hbw hbS e => hk'' b o hbw hbS (hk' b o hbw e)
end
section
variable {prog : Program} {w : World} {A : Around} {E : Value → Shared → Prop} {s : Shared} {l : Addr} {xs : Array (Int × Tok)}
theorem call_list {Q : Value → Shared → Prop} (d : Value) (hh : A.handled = none) (hl : s.heap.IsList l (intItems xs))
    (h : ∀ v h' tk, ((xs.size = 0 ∧ v = d) ∨ (0 < xs.size ∧ (intItems xs)[argBest (fun i j => decide (numAt xs i > numAt xs j)) (xs.size - 1)]? = some v)) → (∀ b o, s.heap.get? b = some o → h'.get? b = some o) → Q v { s with heap := h', toks := tk }) :
    wpAny (model prog w) A (call (.builtin "max") [.ref l] [(Str.ofString "default", d)]) Q E s := by
  have hname : (toString "max" ++ toString ".loop" : String) = "max.loop" := by decide
  refine kmk_tree F.kind_max F.plain_max F.entry_max (args_kw _ _) ?_
  show wpAny _ A.in1 (Builtin.Builtins.bindParams "max" ["key", "default"] 0 ⟨[], [(Str.ofString "default", d)]⟩ >>= _) _ _ s
  refine wpAny_bind (wpAny_of_eq (show Builtin.Builtins.bindParams "max" ["key", "default"] 0 ⟨[], [(Str.ofString "default", d)]⟩ = pure [none, some d] from rfl) ?_)
  refine wpAny_bind (wpAny_pure ?_)
  refine wpAny_bind (iter_intList hl fun s₂ e st hfp hlI => ?_)
  subst e
  refine wpAny_bind (wpAny_newObj_type ?_)
  have W := Walks.list (prog := prog) (w := w) (A := A.in1) hh s.heap.objs.size l hlI (intItems xs)
  have hsz : (intItems xs).size = xs.size := by simp [intItems]
  rw [hname]
  refine wpAny_pure ⟨plainId_quiet F.plain_max_loop _, loop W (fun i j => decide (numAt xs i > numAt xs j)) (CmpOf.ints_gt (numAt xs) (fun _ _ => intItems_at)) _ (fun hm => Nat.lt_irrefl _ (hfp _ hm)) d _ 0 _ #[] 0 rfl (Nat.zero_le _) (W.frame _ _ _ st fun b _ o e => Heap.get?_push_of_some _ e) (.inl ⟨rfl, rfl⟩) (Heap.get?_push_size _ rfl) fun v h' tk hP hk => ?_⟩
  rw [hsz] at hP
  refine h v h' tk hP ?_
  exact old_kept fun b o hbw e => hk b o hbw (Nat.ne_of_lt (Heap.lt_size e)) (Heap.get?_push_of_some _ e)
end
end OI.Mx

/-! OIh: dict(d), methods of built-in things, slices. -/
namespace OI
open PySem PySem.Spec PyProof.Rows L2
variable {c : Cn} {S : Wd} {s : Store}
def R1m (c : Cn) (k : M → M → Option M) : V → List V → Hp → VK → Prop := fun x xs H Q => ∃ S s m1 m2 y m, xs = [y] ∧ S.H = H ∧ RlS c S s ∧ RepV c S m1 x ∧ RepV c S m2 y ∧ k m1 m2 = some m ∧ ∀ S' v, Al c S S' → RepM c S' .tmp m v → Q v S'.H
section
variable {X : Cx}
theorem RepKs.len2 {kvs : List (D × D)} {vs : List V} (h : RepKs c S false kvs vs) : (kpairs kvs vs).length = kvs.length := by
  simp [kpairs, h.length]
theorem hl_dK (R : RlS c S s) {p : Addr} {kvs : List (D × D)} {vs : List V} (h : S.H p = some (dHO c p false (kvs.map (·.1)) vs)) : (kpairs kvs vs).length ≤ 16777216 := (R.hl.n p).2.2 _ h
theorem HLo.dK {kvs : List (Key × V)} (h : kvs.length ≤ 16777216) : HLo (.dK kvs) := ⟨fun _ e => (by cases e), fun _ e => (by cases e), fun _ e => (by cases e; exact h), fun _ _ e => (by cases e), fun _ e => (by cases e), fun _ e => (by cases e)⟩
theorem b_dict : CallR X (.type "dict") (R1c c (bi1 "dict")) := by
  intro pins s σ H xs us Q I rs h
  obtain ⟨S, st, m1, x, m, rfl, rfl, R, r1, hm, q⟩ := h
  unfold bi1 at hm
  simp only at hm
  split at hm
  · rename_i kvs e
    cases hm
    obtain ⟨p, vs, rfl, h1, h2⟩ := dic_of e r1
    rw [Vals.ref1 rs]
    refine d_copyOf I (.inl h1) fun a s' na I' => ?_
    have al := Al.lay R (q := some .tmp) na (.inr rfl) (HLo.dK (hl_dK R h1))
    exact ⟨.ref a, _, I', rfl, q _ _ al ⟨a, vs, rfl, put_H, put_ow, h2.mono al.fr⟩⟩
  · cases hm

/-! ### methods -/
theorem findIx_flat {d : D} {v : V} (hd : d.flat = true) (rd : RepD c S d v) : ∀ {ds : List D} {vs : List V} {i j : Nat}, ds.all D.flat = true → RepDs c S ds vs → findIx d ds i = some j →
    i ≤ j ∧ ∃ z, vs[j - i]? = some z ∧ eqV z v = true ∧ ∀ m z', m < j - i → vs[m]? = some z' → eqV z' v = false
  | [], _, _, _, _, _, h => by cases h
  | e :: ds, _, i, j, hf, ⟨w, r, q, h1, h2⟩, h => by
    subst q
    rw [List.all_cons, Bool.and_eq_true] at hf
    have hq := flat_eqv hf.1 hd h1 rd
    unfold findIx at h
    split at h
    · rename_i he
      cases h
      refine ⟨Nat.le_refl _, w, ?_, hq.trans he, fun m z' hm => ?_⟩
      · rw [Nat.sub_self]; rfl
      · rw [Nat.sub_self] at hm; exact absurd hm (Nat.not_lt_zero _)
    · rename_i he
      obtain ⟨l, z, g1, g2, g3⟩ := findIx_flat hd rd hf.2 h2 h
      refine ⟨by omega, z, ?_, g2, fun m z' hm hz => ?_⟩
      · rw [show j - i = (j - (i + 1)) + 1 by omega]
        simpa using g1
      · cases m with
        | zero =>
          cases hz
          rw [hq]
          simpa using he
        | succ m =>
          exact g3 m z' (by omega) (by simpa using hz)
theorem m_index (hK : X.K = c.K) : MtR X "list.index" (R1m c (bm1 "index")) := by
  intro pins s σ H x xs v us Q I rx rs h
  obtain ⟨S, st, m1, m2, y, m, rfl, rfl, R, r1, r2, hm, q⟩ := h
  unfold bm1 at hm
  simp only at hm
  split at hm
  · rename_i ys d e
    split at hm
    · rename_i hf
      rw [Bool.and_eq_true] at hf
      cases w : findIx d ys 0 with
      | none => rw [w] at hm; cases hm
      | some j =>
        rw [w] at hm
        cases hm
        obtain ⟨p, vs, rfl, h1, h2⟩ := lst_of e r1
        obtain ⟨_, z, g1, g2, g3⟩ := findIx_flat hf.1 r2 hf.2 h2 w
        exact mt_index pins s σ S.H _ _ v us Q I rx rs ⟨p, vs, y, j, z, rfl, rfl, by rw [hK]; exact h1, flat_V hf.1 r2, flats_V hf.2 h2, g1, g2, g3, q S _ (Al.refl R) rfl⟩
    · cases hm
  · cases hm
/-- a list of bools as data -/
theorem bools_at {its : List Value} : ∀ {ds : List D} {vs : List V} {us : List Value}, ds.all (fun y => match y with | .bl _ => true | _ => false) = true → RepDs c S ds vs → Vals vs us →
    ∃ bs : List Bool, ds = bs.map .bl ∧ us = bs.map Value.bool
  | [], _, _, _, h, r => by
    rw [show _ = [] from h] at r
    cases r
    exact ⟨[], rfl, rfl⟩
  | d :: ds, _, _, hf, ⟨w, r, q, h1, h2⟩, rv => by
    subst q
    rw [List.all_cons, Bool.and_eq_true] at hf
    cases rv with
    | cons ra rb =>
      obtain ⟨bs, e1, e2⟩ := bools_at (its := its) hf.2 h2 rb
      cases d with
      | bl b =>
        cases h1
        cases ra
        exact ⟨b :: bs, by rw [e1]; rfl, by rw [e2]; rfl⟩
      | _ => cases hf.1
theorem countP_bl (b : Bool) : ∀ bs : List Bool, (bs.map Value.bool).countP (isBoolOf b) = (bs.map D.bl).countP fun y => decide (y = .bl b)
  | [] => rfl
  | a :: bs => by
    rw [List.map_cons, List.map_cons, List.countP_cons, List.countP_cons, countP_bl b bs]
    congr 1
    cases a <;> cases b <;> rfl
theorem m_count (hK : X.K = c.K) : MtR X "list.count" (R1m c (bm1 "count")) := by
  intro pins s σ H x xs v us Q I rx rs h
  obtain ⟨S, st, m1, m2, y, m, rfl, rfl, R, r1, r2, hm, q⟩ := h
  unfold bm1 at hm
  simp only at hm
  split at hm
  · rename_i ys b e
    split at hm
    · rename_i hf
      cases hm
      obtain ⟨p, vs, rfl, h1, h2⟩ := lst_of e r1
      cases r2
      rw [← hK] at h1
      obtain ⟨its, rv, ⟨⟨cls, dd, data, sls⟩, n, ho, hc, hdn, hdt⟩, hlen⟩ := I.list h1
      simp only at hc hdt
      subst hc hdt
      obtain ⟨bs, rfl, rfl⟩ := bools_at (its := its) hf h2 rv
      cases rx
      cases rs with
      | cons ra rb =>
        cases rb
        cases ra
        have hq := q S _ (Al.refl R) (show RepM c S .tmp (.val (.int (((bs.map D.bl).countP fun y => decide (y = .bl b) : Nat) : Int))) (.int (((bs.map D.bl).countP fun y => decide (y = .bl b) : Nat) : Int)) from rfl)
        refine call_meets PySem.F.slot_list_count ⟨_, ho, rfl⟩ PySem.F.entry_list_count (PySem.F.args_list_count_2 _ _) (SeqAt.list_countAt p (bs.map Value.bool).toArray n dd sls (.bool b) (isBoolOf b)) ⟨ho, fun z hz => ?_, ?_⟩
        · obtain ⟨a, _, rfl⟩ := List.mem_map.mp (show z ∈ bs.map Value.bool by simpa using hz)
          exact SeqAt.EqAt.bool_bool a b
        · refine ⟨.int _, S.H, I.tok _, ⟨_, rfl⟩, ?_⟩
          rw [show ((bs.map Value.bool).toArray.toList) = bs.map Value.bool from rfl, countP_bl]
          exact hq
    · cases hm
  · cases hm
theorem m_join (hK : X.K = c.K) : MtR X "str.join" (R1m c (bm1 "join")) := by
  intro pins s σ H x xs v us Q I rx rs h
  obtain ⟨S, st, m1, m2, y, m, rfl, rfl, R, r1, r2, hm, q⟩ := h
  unfold bm1 at hm
  simp only at hm
  split at hm
  · rename_i z ys e
    split at hm
    · rename_i hl
      cases hm
      cases r1
      cases w : m2.lst? with
      | none => rw [w] at e; cases e
      | some ds =>
        rw [w] at e
        obtain ⟨p, vs, rfl, h1, h2⟩ := lst_of w r2
        have ev := strs_of (show strs? ds = some ys from e) h2
        subst ev
        exact mt_join pins s σ S.H _ _ v us Q I rx rs ⟨z, p, ys, rfl, rfl, .inl (by rw [hK]; exact h1), hl, q S _ (Al.refl R) rfl⟩
    · cases hm
  · cases hm
theorem m_split : MtR X "str.split" (R1m c (bm1 "split")) := by
  intro pins s σ H x xs v us Q I rx rs h
  obtain ⟨S, st, m1, m2, y, m, rfl, rfl, R, r1, r2, hm, q⟩ := h
  unfold bm1 at hm
  simp only at hm
  split at hm
  · rename_i z w
    split at hm
    · rename_i hl
      cases hm
      cases r1
      cases r2
      refine mt_split pins s σ S.H _ _ v us Q I rx rs ⟨z, w, rfl, rfl, by simpa using hl.1, lim_le hl.2, fun p np => ?_⟩
      have hz : (PySem.Txt.split z w).length ≤ 16777216 := Nat.le_trans (PyProof.Rows.split_le z w) hl.2
      obtain ⟨S', al, hH, rp⟩ := new_lst R np (RepDs.strs (PySem.Txt.split z w)) (by rw [List.length_map]; exact hz)
      have := q S' _ al rp
      rw [hH] at this
      exact this
    · cases hm
  · cases hm

/-! ### slices -/
def Rsl (c : Cn) : V → Option Int → Option Int → Hp → VK → Prop := fun x lo hi H Q => ∃ S s m1 m, S.H = H ∧ RlS c S s ∧ RepV c S m1 x ∧ slice m1 lo hi = some m ∧ ∀ S' v, Al c S S' → RepM c S' .tmp m v → Q v S'.H
theorem cutD_rep {ds : List D} {vs : List V} (h : RepDs c S ds vs) (lo hi : Option Int) : RepDs c S (cutD ds lo hi) (cutV vs lo hi) := by
  unfold cutD cutV
  rw [h.length]
  exact (h.drop _).take _
theorem v_slice (hK : X.K = c.K) : SlR X (Rsl c) := by
  intro pins s σ H x v vl vu lo hi sl Q I rx hs pl pu h
  obtain ⟨S, st, m1, m, rfl, R, r1, hm, q⟩ := h
  unfold slice at hm
  split at hm
  · split at hm
    · rename_i z hl
      cases hm
      cases r1
      exact sl_str pins s σ S.H _ v vl vu lo hi sl Q I rx hs pl pu ⟨z, rfl, lim_le hl, q S _ (Al.refl R) rfl⟩
    · cases hm
  · rename_i xs
    cases hm
    obtain ⟨p, vs, rfl, h1, h2⟩ := r1
    refine sl_tupA pins s σ S.H _ v vl vu lo hi sl Q I rx hs pl pu ⟨p, vs, rfl, by rw [hK]; exact h1.sq, fun z => ?_, fun z a na => ?_⟩
    · refine q S _ (Al.refl R) ⟨p, vs, rfl, h1, ?_⟩
      have e : cutV vs lo hi = vs := by
        unfold cutV
        rw [z.1, z.2]
        simp
      have := cutD_rep h2 lo hi
      rw [e] at this
      exact this
    · obtain ⟨S', al, hH, rp⟩ := new_tup R na (cutD_rep h2 lo hi) (Nat.le_trans (cutV_length _ _ _) (len_le I hK (.inr h1.sq)))
      have := q S' _ al rp
      rw [hH] at this
      exact this
  · split at hm
    · rename_i xs e
      cases hm
      obtain ⟨p, vs, rfl, h1, h2⟩ := lst1_of e r1
      refine sl_list pins s σ S.H _ v vl vu lo hi sl Q I rx hs pl pu ⟨p, vs, rfl, SqL.of h1, fun a na => ?_⟩
      obtain ⟨S', al, hH, rp⟩ := new_lst R na (cutD_rep h2 lo hi) (Nat.le_trans (cutV_length _ _ _) (len_le I hK (.inl (SqL.of h1))))
      have := q S' _ al rp
      rw [hH] at this
      exact this
    · cases hm
end
end OI

/-! OIi: the lifts of expressions. -/
namespace OI
open PySem PySem.Spec PyProof.Rows L2

/-- nothing odd at the head -/
def plainE : Expr → Bool
  | .Set _ _ _ => false
  | .Starred _ _ => false
  | .Slice _ _ _ _ => false
  | .NamedExpr _ _ _ => false
  | .Call (.Name id _) [] [] _ => id != "super"
  | _ => true
theorem plain_marks {b : Expr} (h : plainE b = true) (op : CmpOp) : behindInMarks op b = false := by
  cases b <;> first | rfl | cases h
theorem plain_ix {b : Expr} (h : plainE b = true) : PlainIx b := by
  intro o i
  cases b <;> first | rfl | cases h
theorem plain_star {b : Expr} (h : plainE b = true) (r : List Expr) (env : PySem.Env) : starEach (b :: r) env = (false, eval b env) :: starEach r env := by
  cases b <;> first | rfl | cases h
theorem plain_fold {b : Expr} (h : plainE b = true) (env : PySem.Env) (x : Value) : foldedSetIterable b env x = pure x := by
  cases b <;> first | rfl | cases h
theorem plain_base {o : Expr} (h : plainE o = true) (f : Str) (env : PySem.Env) (w : Sem Value) : attributeBase o f env w = w := by
  unfold attributeBase
  split
  · rename_i id p pos
    have h' : (id != "super") = true := h
    rw [h', Bool.true_or, Bool.true_or, Bool.true_or]
    rfl
  · rfl

section
variable {X : Cx} {c : Cn} {W : WX} {R : Runs}
/-- both judgements of an expression -/
structure SE (X : Cx) (c : Cn) (W : WX) (a : Expr) (f : OI.Env → Store → Res (M × Pl)) : Prop where
  pe : PE X a (tE c W f)
  pt : PT X a (tT c W f)
  pw : ∀ op vs pos, a = .BoolOp op vs pos → PW X a (tT c W f)

/-- a test by its value -/
theorem pt_of_pe {a : Expr} {f : OI.Env → Store → Res (M × Pl)} (h : PE X a (tE c W f)) (he : ∀ whole, isTrue a X.env whole = (do let v ← whole; standAt a.pos; holding [v] (truthy v))) : PT X a (tT c W f) :=
  (pt_val h he).weak fun σ H Q q => by
    obtain ⟨S, e, s, rfl, Rr, p⟩ := q
    refine ⟨S, e, s, rfl, Rr, PostG.bind Rr.toRlS p fun x e1 s1 S1 v q1 R1 st1 rp1 p1 => ?_⟩
    unfold getB at p1
    split at p1
    · rename_i b hx
      have r := rp1.1
      rw [hx] at r
      exact ⟨b, r, p1 S1 b R1 (StE.refl S1 s1) rfl⟩
    · exact p1.elim
theorem one_ok {fa : OI.Env → Store → Res (M × Pl)} {k : M → OI.Env → Store → Res (M × Pl)} {σ : L2.St} {H : Hp} {Q : VK} {rest : V → Hp → Prop} (h : tE c W (one fa k) σ H Q)
    (hr : ∀ S e s m1 x, Rl c S e s σ → RepV c S m1 x → PostG c W σ S s (k m1 e s) (rM c σ) Q → rest x S.H) : tE c W fa σ H rest := by
  obtain ⟨S, e, s, rfl, Rr, p⟩ := h
  exact ⟨S, e, s, rfl, Rr, PostG.bind Rr.toRlS p fun x1 e1 s1 S1 v1 q1 R1 st1 rp1 p1 => hr S1 e1 s1 _ v1 R1 (bw_view R1.toRlS rp1.1) p1⟩
theorem testB_ok {fa : OI.Env → Store → Res (M × Pl)} {α β : Type} {k : Bool → OI.Env → Store → Res α} {rep : L2.St → Wd → Store → α → β → Prop} {σ : L2.St} {H : Hp} {Q : β → Hp → Prop} {rest : Bool → Hp → Prop} (h : tG c W (fun e s => (testB fa e s).bind k) rep σ H Q)
    (hr : ∀ S e s b, Rl c S e s σ → PostG c W σ S s (k b e s) (rep σ) Q → rest b S.H) : tT c W fa σ H rest := by
  obtain ⟨S, e, s, rfl, Rr, p⟩ := h
  refine ⟨S, e, s, rfl, Rr, PostG.bind Rr.toRlS p fun b e1 s1 S1 b' q1 R1 st1 rp1 p1 => ?_⟩
  cases rp1
  exact hr S1 e1 s1 b R1 p1
/-- a test's value: testB of what is a bool by itself -/
theorem testB_val {fa : OI.Env → Store → Res (M × Pl)} {σ : L2.St} {H : Hp} {Q : Bool → Hp → Prop} (h : tT c W fa σ H Q) : tE c W fa σ H fun x H1 => ∃ k, x = .bl k ∧ Q k H1 := by
  obtain ⟨S, e, s, rfl, Rr, p⟩ := h
  refine ⟨S, e, s, rfl, Rr, PostG.bind Rr.toRlS p fun x e1 s1 S1 v q1 R1 st1 rp1 p1 => ?_⟩
  unfold getB at p1
  split at p1
  · rename_i b hx
    have r := rp1.1
    rw [hx] at r
    exact ⟨b, r, p1 S1 b R1 (StE.refl S1 s1) rfl⟩
  · exact p1.elim

/-! ### simple ones -/
theorem s_neg {a : Expr} {ia : IE} {pos : Pos} (ha : PE X a (tE c W (ev R ia))) : PE X (.UnaryOp .USub a pos) (tE c W (ev R (.neg ia))) :=
  (pe_un un_neg ha).weak fun σ H Q q => one_ok q fun S e s m1 x Rr r1 p => by
    unfold negK at p
    split at p
    · exact ⟨_, r1, end_val Rr p rfl⟩
    · exact p.elim
theorem two_b {fa fb : OI.Env → Store → Res (M × Pl)} {k : M → M → Option Bool} {σ : L2.St} {H : Hp} {Q : VK} (h : tE c W (two fa fb fun x y => outB (k x y)) σ H Q) : tOp (R2b c k) (tE c W fa) (tE c W fb) σ H Q :=
  two_ok h fun S e s m1 m2 x y Rr r1 r2 p => by
    obtain ⟨b, hb, p⟩ := outB_ok p
    exact ⟨S, s, m1, m2, b, rfl, Rr.toRlS, r1, r2, hb, end_val Rr p rfl⟩
theorem s_cmp {op : COp} {o : CmpOp} {a b : Expr} {ia ib : IE} {pos : Pos} (ho : OpR X (compareOp o) (R2b c (cmp op))) (hb' : plainE b = true) (ha : PE X a (tE c W (ev R ia))) (hb : PE X b (tE c W (ev R ib))) : PE X (.Compare a [o] [b] pos) (tE c W (ev R (.cmp op ia ib))) :=
  (pe_cmpR ho ha hb (plain_marks hb' o)).weak fun σ H Q q => two_b q
theorem t_cmp {op : COp} {o : CmpOp} {a b : Expr} {ia ib : IE} {pos : Pos} (ho : OpR X (compareOp o) (R2b c (cmp op))) (hb' : plainE b = true) (ha : PE X a (tE c W (ev R ia))) (hb : PE X b (tE c W (ev R ib))) : PT X (.Compare a [o] [b] pos) (tT c W (ev R (.cmp op ia ib))) :=
  (pt_cmpR ho ha hb (plain_marks hb' o)).weak fun σ H Q q => two_b (testB_val q)
theorem isN_ok {n : Bool} {ia : IE} {σ : L2.St} {H : Hp} {Q : VK} (h : tE c W (ev R (.isN n ia)) σ H Q) : tE c W (ev R ia) σ H fun x H1 => Q (.bl (if n then !decide (x = .non) else decide (x = .non))) H1 := by
  obtain ⟨S, e, s, rfl, Rr, p⟩ := h
  refine ⟨S, e, s, rfl, Rr, PostG.bind Rr.toRlS p fun x1 e1 s1 S1 v1 q1 R1 st1 rp1 p1 => ?_⟩
  have key : decide ((bw x1.1 x1.2 s1).1 = .val .non) = decide (v1 = V.non) := by
    have r := bw_view R1.toRlS rp1.1
    generalize (bw x1.1 x1.2 s1).1 = m at r
    cases m with
    | val d =>
      cases d with
      | non => cases r; rfl
      | bl b => cases r; rfl
      | int b => cases r; rfl
      | str b => cases r; rfl
      | tup b => obtain ⟨p, vs, rfl, _⟩ := r; rfl
      | lst b => obtain ⟨p, vs, rfl, _⟩ := r; rfl
      | scr b => obtain ⟨p, rfl, _⟩ := r; rfl
      | dic t b => obtain ⟨p, vs, rfl, _⟩ := r; rfl
      | loc b => obtain ⟨p, rfl, _⟩ := r; rfl
      | exn b => obtain ⟨p, rfl, _⟩ := r; rfl
      | lam b b' => obtain ⟨L, _, _, rfl, _⟩ := r; rfl
    | ol b => obtain ⟨p, vs, rfl, _⟩ := r; rfl
    | od t b => obtain ⟨p, vs, rfl, _⟩ := r; rfl
  have := p1 S1 (.bl (if n then !decide ((bw x1.1 x1.2 s1).1 = .val .non) else decide ((bw x1.1 x1.2 s1).1 = .val .non))) R1 (StE.refl _ _) ⟨rfl, trivial⟩
  rw [key] at this
  exact this
theorem s_isN {ia : IE} {a : Expr} {j : Nat} {pos pos' : Pos} (ha : PE X a (tE c W (ev R ia))) : PE X (.Compare a [.Is] [.Constant .none j pos'] pos) (tE c W (ev R (.isN false ia))) :=
  (pe_cmpR op_isN ha pe_non rfl).weak fun σ H Q q => (isN_ok q : _) |> fun h => by
    obtain ⟨S, e, s, rfl, Rr, p⟩ := h
    exact ⟨S, e, s, rfl, Rr, p.mono fun y H h => ⟨rfl, h⟩⟩
theorem s_notN {ia : IE} {a : Expr} {j : Nat} {pos pos' : Pos} (ha : PE X a (tE c W (ev R ia))) : PE X (.Compare a [.IsNot] [.Constant .none j pos'] pos) (tE c W (ev R (.isN true ia))) :=
  (pe_cmpR op_notN ha pe_non rfl).weak fun σ H Q q => (isN_ok q : _) |> fun h => by
    obtain ⟨S, e, s, rfl, Rr, p⟩ := h
    exact ⟨S, e, s, rfl, Rr, p.mono fun y H h => ⟨rfl, h⟩⟩
theorem t_isN {ia : IE} {a : Expr} {j : Nat} {pos pos' : Pos} (ha : PE X a (tE c W (ev R ia))) : PT X (.Compare a [.Is] [.Constant .none j pos'] pos) (tT c W (ev R (.isN false ia))) :=
  (pt_cmpR op_isN ha pe_non rfl).weak fun σ H Q q => (isN_ok (testB_val q) : _) |> fun h => by
    obtain ⟨S, e, s, rfl, Rr, p⟩ := h
    exact ⟨S, e, s, rfl, Rr, p.mono fun y H h => ⟨rfl, h⟩⟩
theorem t_notN {ia : IE} {a : Expr} {j : Nat} {pos pos' : Pos} (ha : PE X a (tE c W (ev R ia))) : PT X (.Compare a [.IsNot] [.Constant .none j pos'] pos) (tT c W (ev R (.isN true ia))) :=
  (pt_cmpR op_notN ha pe_non rfl).weak fun σ H Q q => (isN_ok (testB_val q) : _) |> fun h => by
    obtain ⟨S, e, s, rfl, Rr, p⟩ := h
    exact ⟨S, e, s, rfl, Rr, p.mono fun y H h => ⟨rfl, h⟩⟩
theorem isB_ok {n b : Bool} {ia : IE} {σ : L2.St} {H : Hp} {Q : VK} (h : tE c W (ev R (.isB n ia b)) σ H Q) : tE c W (ev R ia) σ H fun x H1 => ∃ a, x = .bl a ∧ Q (.bl (if n then !decide (a = b) else decide (a = b))) H1 := by
  refine one_ok h fun S e s m1 x Rr r1 p => ?_
  unfold isBK at p
  split at p
  · rename_i a
    refine ⟨a, r1, ?_⟩
    have := end_val Rr p (show RepD c S (.bl (if n then !(a == b) else a == b)) (.bl (if n then !(a == b) else a == b)) from rfl)
    rw [show decide (a = b) = (a == b) by cases a <;> cases b <;> rfl]
    exact this
  · exact p.elim
theorem s_isB {ia : IE} {a : Expr} {b : Bool} {j : Nat} {pos pos' : Pos} (ha : PE X a (tE c W (ev R ia))) : PE X (.Compare a [.Is] [.Constant (.bool b) j pos'] pos) (tE c W (ev R (.isB false ia b))) :=
  (pe_cmpR op_isBl ha pe_bl rfl).weak fun σ H Q q => (isB_ok q : _) |> fun h => by
    obtain ⟨S, e, s, rfl, Rr, p⟩ := h
    exact ⟨S, e, s, rfl, Rr, p.mono fun y H ⟨a, e, h⟩ => ⟨a, b, e, rfl, h⟩⟩
theorem s_notB {ia : IE} {a : Expr} {b : Bool} {j : Nat} {pos pos' : Pos} (ha : PE X a (tE c W (ev R ia))) : PE X (.Compare a [.IsNot] [.Constant (.bool b) j pos'] pos) (tE c W (ev R (.isB true ia b))) :=
  (pe_cmpR op_notBl ha pe_bl rfl).weak fun σ H Q q => (isB_ok q : _) |> fun h => by
    obtain ⟨S, e, s, rfl, Rr, p⟩ := h
    exact ⟨S, e, s, rfl, Rr, p.mono fun y H ⟨a, e, h⟩ => ⟨a, b, e, rfl, h⟩⟩
theorem t_isB {ia : IE} {a : Expr} {b : Bool} {j : Nat} {pos pos' : Pos} (ha : PE X a (tE c W (ev R ia))) : PT X (.Compare a [.Is] [.Constant (.bool b) j pos'] pos) (tT c W (ev R (.isB false ia b))) :=
  (pt_cmpR op_isBl ha pe_bl rfl).weak fun σ H Q q => (isB_ok (testB_val q) : _) |> fun h => by
    obtain ⟨S, e, s, rfl, Rr, p⟩ := h
    exact ⟨S, e, s, rfl, Rr, p.mono fun y H ⟨a, e, h⟩ => ⟨a, b, e, rfl, h⟩⟩
theorem t_notB {ia : IE} {a : Expr} {b : Bool} {j : Nat} {pos pos' : Pos} (ha : PE X a (tE c W (ev R ia))) : PT X (.Compare a [.IsNot] [.Constant (.bool b) j pos'] pos) (tT c W (ev R (.isB true ia b))) :=
  (pt_cmpR op_notBl ha pe_bl rfl).weak fun σ H Q q => (isB_ok (testB_val q) : _) |> fun h => by
    obtain ⟨S, e, s, rfl, Rr, p⟩ := h
    exact ⟨S, e, s, rfl, Rr, p.mono fun y H ⟨a, e, h⟩ => ⟨a, b, e, rfl, h⟩⟩

/-! ### and, or, not, if -/
theorem both_ok {ia ib : IE} {σ : L2.St} {H : Hp} {Q : VK} (h : tE c W (ev R (.both ia ib)) σ H Q) : tT c W (ev R ia) σ H fun k H1 => if k = true then tE c W (ev R ib) σ H1 Q else Q (.bl false) H1 := by
  refine testB_ok (k := fun c => bothK c (ev R ib)) (rep := rM c) h fun S e s b Rr p => ?_
  cases b with
  | true => exact ⟨S, e, s, rfl, Rr, p⟩
  | false => exact end_val Rr p rfl
theorem either_ok {ia ib : IE} {σ : L2.St} {H : Hp} {Q : VK} (h : tE c W (ev R (.either ia ib)) σ H Q) : tT c W (ev R ia) σ H fun k H1 => if k = true then Q (.bl true) H1 else tE c W (ev R ib) σ H1 Q := by
  refine testB_ok (k := fun c => eitherK c (ev R ib)) (rep := rM c) h fun S e s b Rr p => ?_
  cases b with
  | true => exact end_val Rr p rfl
  | false => exact ⟨S, e, s, rfl, Rr, p⟩
theorem Res.bind_bind {α β γ : Type} (r : Res α) (f : α → OI.Env → Store → Res β) (g : β → OI.Env → Store → Res γ) : (r.bind f).bind g = r.bind fun a e s => (f a e s).bind g := by
  cases r <;> rfl
theorem test_both (ia ib : IE) (e : OI.Env) (s : Store) : testB (ev R (.both ia ib)) e s = (testB (ev R ia) e s).bind fun k e s => if k = true then testB (ev R ib) e s else .ok false e s := by
  show ((testB (ev R ia) e s).bind fun k => bothK k (ev R ib)).bind _ = _
  rw [Res.bind_bind]
  congr 1
  funext k e1 s1
  cases k <;> rfl
theorem test_either (ia ib : IE) (e : OI.Env) (s : Store) : testB (ev R (.either ia ib)) e s = (testB (ev R ia) e s).bind fun k e s => if k = true then .ok true e s else testB (ev R ib) e s := by
  show ((testB (ev R ia) e s).bind fun k => eitherK k (ev R ib)).bind _ = _
  rw [Res.bind_bind]
  congr 1
  funext k e1 s1
  cases k <;> rfl
theorem test_not (ia : IE) (e : OI.Env) (s : Store) : testB (ev R (.nott ia)) e s = (testB (ev R ia) e s).bind fun k e s => .ok (!k) e s := by
  show ((testB (ev R ia) e s).bind fun k => okB (!k)).bind _ = _
  rw [Res.bind_bind]
  rfl
theorem both_t {ia ib : IE} {σ : L2.St} {H : Hp} {Q : Bool → Hp → Prop} (h : tT c W (ev R (.both ia ib)) σ H Q) : tT c W (ev R ia) σ H fun k H1 => if k = true then tT c W (ev R ib) σ H1 Q else Q false H1 := by
  obtain ⟨S, e, s, rfl, Rr, p⟩ := h
  rw [test_both] at p
  refine ⟨S, e, s, rfl, Rr, PostG.bind Rr.toRlS p fun k e1 s1 S1 k' q1 R1 st1 rp1 p1 => ?_⟩
  cases rp1
  cases k with
  | true => exact ⟨S1, e1, s1, rfl, R1, p1⟩
  | false => exact p1 S1 false R1 (StE.refl S1 s1) rfl
theorem either_t {ia ib : IE} {σ : L2.St} {H : Hp} {Q : Bool → Hp → Prop} (h : tT c W (ev R (.either ia ib)) σ H Q) : tT c W (ev R ia) σ H fun k H1 => if k = true then Q true H1 else tT c W (ev R ib) σ H1 Q := by
  obtain ⟨S, e, s, rfl, Rr, p⟩ := h
  rw [test_either] at p
  refine ⟨S, e, s, rfl, Rr, PostG.bind Rr.toRlS p fun k e1 s1 S1 k' q1 R1 st1 rp1 p1 => ?_⟩
  cases rp1
  cases k with
  | true => exact p1 S1 true R1 (StE.refl S1 s1) rfl
  | false => exact ⟨S1, e1, s1, rfl, R1, p1⟩
section
variable {a b : Expr} {rest : List Expr} {ia ib : IE} {pos : Pos}
theorem and_last (h : SE X c W a (ev R ia)) : SE X c W (.BoolOp .And [a] pos) (ev R ia) := ⟨pe_one h.pe, (pw_and1 h.pt).pt, fun op vs p e => by cases e; exact pw_and1 h.pt⟩
theorem or_last (h : SE X c W a (ev R ia)) : SE X c W (.BoolOp .Or [a] pos) (ev R ia) := ⟨pe_one h.pe, (pw_or1 h.pt).pt, fun op vs p e => by cases e; exact pw_or1 h.pt⟩
/-- a bool's value, as the next operand asks it -/
theorem tE_bool {fa : OI.Env → Store → Res (M × Pl)} {σ : L2.St} {H : Hp} {Q : Bool → Hp → Prop} (h : tT c W fa σ H Q) : tE c W fa σ H fun x H1 => ∃ k, x = .bl k ∧ Q k H1 := testB_val h
theorem s_both (ha : SE X c W a (ev R ia)) (hb : SE X c W (.BoolOp .And (b :: rest) pos) (ev R ib)) : SE X c W (.BoolOp .And (a :: b :: rest) pos) (ev R (.both ia ib)) :=
  have pw : PW X (.BoolOp .And (a :: b :: rest) pos) (tT c W (ev R (.both ia ib))) := ⟨fun wh pins s σ H Q I q => (pw_and ha.pt (hb.pw _ _ _ rfl)).run wh pins s σ H Q I (both_t q)⟩
  ⟨(pe_and ha.pe hb.pe).weak fun σ H Q q => tE_bool (both_ok q), pw.pt, fun op vs p e => by cases e; exact pw⟩
theorem s_either (ha : SE X c W a (ev R ia)) (hb : SE X c W (.BoolOp .Or (b :: rest) pos) (ev R ib)) : SE X c W (.BoolOp .Or (a :: b :: rest) pos) (ev R (.either ia ib)) :=
  have pw : PW X (.BoolOp .Or (a :: b :: rest) pos) (tT c W (ev R (.either ia ib))) := ⟨fun wh pins s σ H Q I q => (pw_or ha.pt (hb.pw _ _ _ rfl)).run wh pins s σ H Q I (either_t q)⟩
  ⟨(pe_or ha.pe hb.pe).weak fun σ H Q q => tE_bool (either_ok q), pw.pt, fun op vs p e => by cases e; exact pw⟩
theorem s_not (ha : SE X c W a (ev R ia)) : SE X c W (.UnaryOp .Not a pos) (ev R (.nott ia)) := by
  refine ⟨(pe_not ha.pe).weak fun σ H Q q => tE_bool (testB_ok (k := fun k => okB (!k)) (rep := rM c) q fun S e s b Rr p => end_val Rr p rfl), (pt_not ha.pt).weak fun σ H Q q => ?_, fun op vs p e => by cases e⟩
  obtain ⟨S, e, s, rfl, Rr, p⟩ := q
  rw [test_not] at p
  refine ⟨S, e, s, rfl, Rr, PostG.bind Rr.toRlS p fun k e1 s1 S1 k' q1 R1 st1 rp1 p1 => ?_⟩
  cases rp1
  exact p1 S1 (!k) R1 (StE.refl S1 s1) rfl
/-- a value, as it may be handed on: whose it was is settled -/
theorem vl_ok {α β : Type} {x : M × Pl} {v : V} {σ : L2.St} {S : Wd} {e : OI.Env} {s : Store} {k : M → OI.Env → Store → Res α} {rep : Wd → Store → α → β → Prop} {Q : β → Hp → Prop} {G : Prop} (Rr : Rl c S e s σ) (rp : rM c σ S s x v)
    (h : PostG c W σ S s ((vl x.1 x.2 e s).bind k) rep Q) (g : ∀ S1 m e1, Rl c S1 e1 s σ → StE S S1 s s → S1.H = S.H → RepM c S1 .tmp m v → PostG c W σ S1 s (k m e1 s) rep Q → G) : G := by
  obtain ⟨m, pl⟩ := x
  obtain ⟨r1, r2⟩ := rp
  have other : ∀ (hm : m.isVal = false), G := fun hm => by
    dsimp only at h
    cases pl with
    | slot i =>
      have e0 : vl m (.slot i) e s = .ok (.val m.frz) (e.set i (some (.val m.frz))) s := by
        cases m <;> first | rfl | cases hm
      rw [e0] at h
      have hlt : i < e.length := by
        rw [Rr.elen]
        exact (List.getElem?_eq_some_iff.mp r2).1
      obtain ⟨S1, R1, hH, hd, st⟩ := Rr.frzSlot hm r2 r1 hlt
      exact g S1 (.val m.frz) _ R1 st hH hd (PostG.shift Rr.toRlS st h)
    | tmp =>
      have e0 : vl m .tmp e s = .ok m e s := by
        cases m <;> first | rfl | cases hm
      rw [e0] at h
      exact g S m e Rr (StE.refl S s) rfl r1 h
    | fld n f =>
      have e0 : vl m (.fld n f) e s = .bad := by
        cases m <;> first | rfl | cases hm
      rw [e0] at h
      exact h.elim
    | obj n => exact r2.elim
    | oth => exact r2.elim
  cases m with
  | val d => exact g S (.val d) e Rr (StE.refl S s) rfl r1 h
  | ol xs => exact other rfl
  | od t kvs => exact other rfl
end
end
end OI

/-! OIj: values handed on, argument lists, displays, subscripts, slices, attributes. -/
namespace OI
open PySem PySem.Spec PyProof.Rows L2
def IEs.len : IEs → Nat
  | .nil => 0
  | .cons _ r => r.len + 1
def IPs.len : IPs → Nat
  | .nil => 0
  | .cons _ _ r => r.len + 1
section
variable {X : Cx} {c : Cn} {W : WX} {R : Runs}
theorem evs_len : ∀ {es : IEs} {e e' : OI.Env} {s s' : Store} {ds : List D}, evs R es e s = .ok ds e' s' → ds.length = es.len
  | .nil, _, _, _, _, _, h => by
    have h : Res.ok [] _ _ = Res.ok _ _ _ := h
    cases h
    rfl
  | .cons a r, e, e', s, s', ds, h => by
    have h : (valD (ev R a) e s).bind (fun d e1 s1 => (evs R r e1 s1).bind fun ds e2 s2 => .ok (d :: ds) e2 s2) = .ok ds e' s' := h
    cases w : valD (ev R a) e s with
    | ok d e1 s1 =>
      rw [w] at h
      have h : (evs R r e1 s1).bind (fun ds e2 s2 => .ok (d :: ds) e2 s2) = .ok ds e' s' := h
      cases w2 : evs R r e1 s1 with
      | ok ds2 e2 s2 =>
        rw [w2] at h
        have h : Res.ok (d :: ds2) e2 s2 = .ok ds e' s' := h
        cases h
        rw [List.length_cons, evs_len w2]
        rfl
      | err k e1 s1 => rw [w2] at h; cases h
      | bad => rw [w2] at h; cases h
    | err k e1 s1 => rw [w] at h; cases h
    | bad => rw [w] at h; cases h
/-- an operand's value as data -/
theorem valD_ok {α β : Type} {fa : OI.Env → Store → Res (M × Pl)} {k : D → OI.Env → Store → Res α} {rep : L2.St → Wd → Store → α → β → Prop} {σ : L2.St} {Q : β → Hp → Prop} {rest : V → Hp → Prop} {S : Wd} {e : OI.Env} {s : Store} (Rr : Rl c S e s σ)
    (h : PostG c W σ S s ((valD fa e s).bind k) (rep σ) Q) (hr : ∀ S1 e1 s1 d v, Rl c S1 e1 s1 σ → StE S S1 s s1 → RepD c S1 d v → PostG c W σ S1 s1 (k d e1 s1) (rep σ) Q → rest v S1.H) : tE c W fa σ S.H rest := by
  unfold valD at h
  rw [Res.bind_bind] at h
  refine ⟨S, e, s, rfl, Rr, PostG.bind Rr.toRlS h fun x e1 s1 S1 v q1 R1 st1 rp1 p1 => ?_⟩
  rw [Res.bind_bind] at p1
  refine vl_ok (rep := rep σ) R1 rp1 p1 fun S2 m e2 R2 st2 hH rp2 p2 => ?_
  obtain ⟨S3, R3, hH3, hd, st3⟩ := frz_ste R2 rp2
  rw [← hH, ← hH3]
  exact hr S3 e2 s1 m.frz v R3 ((st1.trans Rr.dom st2).trans Rr.dom st3) hd (PostG.shift R2.toRlS st3 p2)
/-- .. or as what it is -/
theorem valM_ok {α β : Type} {fa : OI.Env → Store → Res (M × Pl)} {k : M → OI.Env → Store → Res α} {rep : L2.St → Wd → Store → α → β → Prop} {σ : L2.St} {Q : β → Hp → Prop} {rest : V → Hp → Prop} {S : Wd} {e : OI.Env} {s : Store} (Rr : Rl c S e s σ)
    (h : PostG c W σ S s ((valM fa e s).bind k) (rep σ) Q) (hr : ∀ S1 e1 s1 m v, Rl c S1 e1 s1 σ → StE S S1 s s1 → RepM c S1 .tmp m v → PostG c W σ S1 s1 (k m e1 s1) (rep σ) Q → rest v S1.H) : tE c W fa σ S.H rest := by
  unfold valM at h
  rw [Res.bind_bind] at h
  refine ⟨S, e, s, rfl, Rr, PostG.bind Rr.toRlS h fun x e1 s1 S1 v q1 R1 st1 rp1 p1 => ?_⟩
  refine vl_ok (rep := rep σ) R1 rp1 p1 fun S2 m e2 R2 st2 hH rp2 p2 => ?_
  rw [← hH]
  exact hr S2 e2 s1 m v R2 (st1.trans Rr.dom st2) rp2 p2
theorem s_nil : PA X [] (tA c W (evs R .nil)) := pa_nil.weak fun σ H Q q => by
  obtain ⟨S, e, s, rfl, Rr, p⟩ := q
  exact p S [] Rr (StE.refl S s) rfl
theorem s_cons {a : Expr} {as : List Expr} {ia : IE} {ias : IEs} (hp : plainE a = true) (ha : PE X a (tE c W (ev R ia))) (hr : PA X as (tA c W (evs R ias))) : PA X (a :: as) (tA c W (evs R (.cons ia ias))) :=
  (pa_cons ha hr (plain_star hp as X.env)).weak fun σ H Q q => by
    obtain ⟨S, e, s, rfl, Rr, p⟩ := q
    refine valD_ok (rep := fun _ => rDs c) Rr p fun S1 e1 s1 d v R1 st1 rd p1 => ?_
    refine ⟨S1, e1, s1, rfl, R1, PostG.bind R1.toRlS p1 fun ds e2 s2 S2 vs q2 R2 st2 rds p2 => ?_⟩
    exact p2 S2 (v :: vs) R2 (StE.refl S2 s2) ⟨v, vs, rfl, rd.mono st2.toFr, rds⟩
theorem args_ok {α β : Type} {ias : IEs} {k : List D → OI.Env → Store → Res α} {rep : L2.St → Wd → Store → α → β → Prop} {σ : L2.St} {H : Hp} {Q : β → Hp → Prop} {rest : List V → Hp → Prop} (h : tG c W (fun e s => (evs R ias e s).bind k) rep σ H Q)
    (hr : ∀ S e s ds vs, Rl c S e s σ → RepDs c S ds vs → ds.length = ias.len → PostG c W σ S s (k ds e s) (rep σ) Q → rest vs S.H) : tA c W (evs R ias) σ H rest := by
  obtain ⟨S, e, s, rfl, Rr, p⟩ := h
  exact ⟨S, e, s, rfl, Rr, PostG.bind Rr.toRlS p fun ds e1 s1 S1 vs q1 R1 st1 rp1 p1 => hr S1 e1 s1 ds vs R1 rp1 (evs_len q1) p1⟩
theorem s_tup {as : List Expr} {ias : IEs} {x1 : Nat} {pos : Pos} (hn : ias.len ≤ 16777216) (h : PA X as (tA c W (evs R ias))) : PE X (.Tuple as x1 pos) (tE c W (ev R (.tup ias))) :=
  (pe_tup h).weak fun σ H Q q => args_ok (k := fun ds => okV (.tup ds)) (rep := rM c) q fun S e s ds vs Rr r hl p => by
    have hv : vs.length ≤ 16777216 := by rw [r.length, hl]; exact hn
    refine ⟨by rw [sizeLine_eq]; exact hv, fun a na => ?_⟩
    obtain ⟨S', al, hH, rp⟩ := new_tup Rr.toRlS na r hv
    have := end_al Rr p al rp
    rw [hH] at this
    exact this
theorem s_lst {as : List Expr} {ias : IEs} {pos : Pos} (hn : ias.len ≤ 16777216) (h : PA X as (tA c W (evs R ias))) : PE X (.List as pos) (tE c W (ev R (.lst ias))) :=
  (pe_lst h).weak fun σ H Q q => args_ok (k := lstK) (rep := rM c) q fun S e s ds vs Rr r hl p => by
    have hv : vs.length ≤ 16777216 := by rw [r.length, hl]; exact hn
    refine ⟨by rw [sizeLine_eq]; exact hv, fun a na => ?_⟩
    obtain ⟨S', al, hH, rp⟩ := new_lst Rr.toRlS na r hv
    have := end_al Rr p al rp
    rw [hH] at this
    exact this
theorem s_idx {a b : Expr} {ia ib : IE} {pos : Pos} (hK : X.K = c.K) (hu : X.A.units + 65 < cLine) (hb' : plainE b = true) (ha : PE X a (tE c W (ev R ia))) (hb : PE X b (tE c W (ev R ib))) : PE X (.Subscript a b pos) (tE c W (ev R (.idx ia ib))) :=
  (pe_ix (v_index hK hu) ha hb (plain_ix hb')).weak fun σ H Q q => two_ok q fun S e s m1 m2 x y Rr r1 r2 p => by
    unfold outD at p
    split at p
    · rename_i d hd
      exact ⟨S, s, m1, m2, d, rfl, Rr.toRlS, r1, r2, hd, fun v rd => end_val Rr p rd⟩
    · exact p.elim
/-! slices -/
def tO (c : Cn) (W : WX) (f : OI.Env → Store → Res (Option Int)) : TO := tG c W f fun _ _ _ a b => a = b
theorem s_no : PO X none (tO c W (evo R .no)) :=
  ⟨fun pins s σ H Q I h => by
    obtain ⟨S, e, s', rfl, Rr, p⟩ := h
    exact po_none.run pins s σ S.H Q I (p S none Rr (StE.refl _ _) rfl)⟩
theorem s_yes {a : Expr} {ia : IE} (ha : PE X a (tE c W (ev R ia))) : PO X (some a) (tO c W (evo R (.yes ia))) :=
  ⟨fun pins s σ H Q I h => by
    obtain ⟨S, e, s', rfl, Rr, p⟩ := h
    refine (po_some ha).run pins s σ S.H Q I ⟨S, e, s', rfl, Rr, PostG.bind Rr.toRlS p fun x e1 s1 S1 v q1 R1 st1 rp1 p1 => ?_⟩
    unfold partK at p1
    split at p1
    · rename_i i hx
      have r := rp1.1
      rw [hx] at r
      exact ⟨i, r, p1 S1 (some i) R1 (StE.refl _ _) rfl⟩
    · exact p1.elim⟩
theorem s_slc {a : Expr} {lo hi : Option Expr} {ia : IE} {il ih : IO} {p2 pos : Pos} (hK : X.K = c.K) (ha : PE X a (tE c W (ev R ia))) (hl : PO X lo (tO c W (evo R il))) (hh : PO X hi (tO c W (evo R ih))) : PE X (.Subscript a (.Slice lo hi none p2) pos) (tE c W (ev R (.slc ia il ih))) :=
  (pe_slice (v_slice hK) ha hl hh).weak fun σ H Q q => by
    obtain ⟨S, e, s, rfl, Rr, p⟩ := q
    refine ⟨S, e, s, rfl, Rr, PostG.bind Rr.toRlS p fun x e1 s1 S1 v1 q1 R1 st1 rp1 p1 => ?_⟩
    obtain ⟨S1', pl', R1', hH, ham, rp1', hpl, hbw, _, st1'⟩ := pend R1 rp1.1
    replace p1 := PostG.shift R1.toRlS st1' p1
    refine ⟨S1', e1, s1, hH, R1', PostG.bind R1'.toRlS p1 fun l e2 s2 S2 vl q2 R2 st2 rp2 p2 => ?_⟩
    refine ⟨S2, e2, s2, rfl, R2, PostG.bind R2.toRlS p2 fun h e3 s3 S3 vh q3 R3 st3 rp3 p3 => ?_⟩
    subst rp2 rp3
    unfold slcK at p3
    rw [← hbw] at p3
    split at p3
    · rename_i hs
      obtain ⟨m, hm, p3⟩ := out_ok p3
      exact ⟨S3, s3, _, m, rfl, R3.toRlS, bw_keep R1'.toRlS rp1' hpl (st2.trans R1'.dom st3) hs, hm, fun S' v al rp => end_al R3 p3 al rp⟩
    · exact p3.elim
end
end OI

/-! OIk: built-ins, conditionals, isinstance, calls of defs. -/
namespace OI
open PySem PySem.Spec PyProof.Rows L2

/-! ### built-ins -/
section
variable {X : Cx} {c : Cn} {W : WX} {R : Runs}
theorem three_ok {fa fb fc : OI.Env → Store → Res (M × Pl)} {k : M → M → M → OI.Env → Store → Res (M × Pl)} {σ : L2.St} {H : Hp} {Q : VK} {rest : V → V → V → Hp → Prop} (h : tE c W (three fa fb fc k) σ H Q)
    (hr : ∀ S e s m1 m2 m3 x y z, Rl c S e s σ → RepV c S m1 x → RepV c S m2 y → RepV c S m3 z → PostG c W σ S s (k m1 m2 m3 e s) (rM c σ) Q → rest x y z S.H) :
    tE c W fa σ H fun x H1 => tE c W fb σ H1 fun y H2 => tE c W fc σ H2 fun z H3 => rest x y z H3 := by
  obtain ⟨S, e, s, rfl, Rr, p⟩ := h
  refine ⟨S, e, s, rfl, Rr, PostG.bind Rr.toRlS p fun x1 e1 s1 S1 v1 q1 R1 st1 rp1 p1 => ?_⟩
  obtain ⟨S1', pl', R1', hH, ham, rp1', hpl, hbw, _, st1'⟩ := pend R1 rp1.1
  replace p1 := PostG.shift R1.toRlS st1' p1
  refine ⟨S1', e1, s1, hH, R1', PostG.bind R1'.toRlS p1 fun x2 e2 s2 S2 v2 q2 R2 st2 rp2 p2 => ?_⟩
  obtain ⟨S2', pl2', R2', hH2, ham2, rp2', hpl2, hbw2, _, st2'⟩ := pend R2 rp2.1
  replace p2 := PostG.shift R2.toRlS st2' p2
  refine ⟨S2', e2, s2, hH2, R2', PostG.bind R2'.toRlS p2 fun x3 e3 s3 S3 v3 q3 R3 st3 rp3 p3 => ?_⟩
  split at p3
  · rename_i hs
    rw [Bool.and_eq_true] at hs
    obtain ⟨hs1, hs2⟩ := hs
    rw [← hbw] at hs1 p3
    rw [← hbw2] at hs2 p3
    exact hr S3 e3 s3 _ _ _ v1 v2 v3 R3 (bw_keep R1'.toRlS rp1' hpl ((st2.trans R1'.dom st2').trans R1'.dom st3) hs1) (bw_keep R2'.toRlS rp2' hpl2 st3 hs2) (bw_view R3.toRlS rp3.1) p3
  · exact p3.elim
variable {x : Str} {id T : String} {p pos : Pos} {a a2 a3 : Expr} {ia ib ic : IE} {f : String}
theorem one_R1 {fa : OI.Env → Store → Res (M × Pl)} {k : M → Option M} {σ : L2.St} {H : Hp} {Q : VK} (h : tE c W (one fa fun x => out (k x)) σ H Q) : tCB (R1c c k) (tCons (tE c W fa) tNil) σ H Q :=
  one_ok h fun S e s m1 x Rr r1 p => by
    obtain ⟨m, hm, p⟩ := out_ok p
    exact ⟨S, s, m1, x, m, rfl, rfl, Rr.toRlS, r1, hm, fun S' v al rp => end_al Rr p al rp⟩
theorem two_R2c {fa fb : OI.Env → Store → Res (M × Pl)} {k : M → M → Option M} {σ : L2.St} {H : Hp} {Q : VK} (h : tE c W (two fa fb fun x y => out (k x y)) σ H Q) : tCB (R2c c k) (tCons (tE c W fa) (tCons (tE c W fb) tNil)) σ H Q :=
  two_ok h fun S e s m1 m2 x y Rr r1 r2 p => by
    obtain ⟨m, hm, p⟩ := out_ok p
    exact ⟨S, s, m1, m2, x, y, m, rfl, rfl, Rr.toRlS, r1, r2, hm, fun S' v al rp => end_al Rr p al rp⟩
theorem three_R3c {fa fb fc : OI.Env → Store → Res (M × Pl)} {k : M → M → M → Option M} {σ : L2.St} {H : Hp} {Q : VK} (h : tE c W (three fa fb fc fun x y z => out (k x y z)) σ H Q) : tCB (R3c c k) (tCons (tE c W fa) (tCons (tE c W fb) (tCons (tE c W fc) tNil))) σ H Q :=
  three_ok h fun S e s m1 m2 m3 x y z Rr r1 r2 r3 p => by
    obtain ⟨m, hm, p⟩ := out_ok p
    exact ⟨S, s, m1, m2, m3, x, y, z, m, rfl, rfl, Rr.toRlS, r1, r2, r3, hm, fun S' v al rp => end_al Rr p al rp⟩
theorem pa1 {t : TE} (hp : plainE a = true) (ha : PE X a t) : PA X [a] (tCons t tNil) := pa_cons ha pa_nil (plain_star hp [] X.env)
theorem pa2 {t u : TE} (hp : plainE a = true) (ha : PE X a t) (hp2 : plainE a2 = true) (ha2 : PE X a2 u) : PA X [a, a2] (tCons t (tCons u tNil)) := pa_cons ha (pa1 hp2 ha2) (plain_star hp [a2] X.env)
theorem pa3 {t u w : TE} (hp : plainE a = true) (ha : PE X a t) (hp2 : plainE a2 = true) (ha2 : PE X a2 u) (hp3 : plainE a3 = true) (ha3 : PE X a3 w) : PA X [a, a2, a3] (tCons t (tCons u (tCons w tNil))) := pa_cons ha (pa2 hp2 ha2 hp3 ha3) (plain_star hp [a2, a3] X.env)
theorem star1 (hp : plainE a = true) : starEach [a] X.env = [(false, eval a X.env)] := plain_star hp [] X.env
theorem star2 (hp : plainE a = true) (hp2 : plainE a2 = true) : starEach [a, a2] X.env = [(false, eval a X.env), (false, eval a2 X.env)] := by rw [plain_star hp, plain_star hp2]; rfl
theorem any0 {pos : Pos} : (backTo pos (starEach [] X.env)).any (·.1) = false := rfl
theorem any1 {pos : Pos} (hp : plainE a = true) : (backTo pos (starEach [a] X.env)).any (·.1) = false := by rw [star1 hp]; rfl
theorem any2 {pos : Pos} (hp : plainE a = true) (hp2 : plainE a2 = true) : (backTo pos (starEach [a, a2] X.env)).any (·.1) = false := by rw [star2 hp hp2]; rfl
section
variable (hg : Gl X x) (hm : X.mg x = none) (hn : x ≠ "__name__") (hdb : (x == ("__debug__" : Str)) = false)
include hg hm hn hdb
theorem s_bi1B (hc : CallR X (.builtin id) (R1c c (bi1 f))) (hv : bootBuiltins x = some (.builtin id)) (hp : plainE a = true) (ha : PE X a (tE c W (ev R ia))) : PE X (.Call (.Name x p) [a] [] pos) (tE c W (ev R (.bi1 f ia))) :=
  (pe_callB hc hg hm hv (pa1 hp ha) hn hdb (plain_star hp [] X.env) any0).weak fun σ H Q q => one_R1 q
theorem s_bi1T (hc : CallR X (.type T) (R1c c (bi1 f))) (hv : bootBuiltins x = some (.type T)) (hp : plainE a = true) (ha : PE X a (tE c W (ev R ia))) : PE X (.Call (.Name x p) [a] [] pos) (tE c W (ev R (.bi1 f ia))) :=
  (pe_callTy hc hg hm hv (pa1 hp ha) hn hdb (plain_star hp [] X.env) any0).weak fun σ H Q q => one_R1 q
theorem s_bi2B (hc : CallR X (.builtin id) (R2c c (bi2 f))) (hv : bootBuiltins x = some (.builtin id)) (hp : plainE a = true) (ha : PE X a (tE c W (ev R ia))) (hp2 : plainE a2 = true) (hb : PE X a2 (tE c W (ev R ib))) : PE X (.Call (.Name x p) [a, a2] [] pos) (tE c W (ev R (.bi2 f ia ib))) :=
  (pe_callB hc hg hm hv (pa2 hp ha hp2 hb) hn hdb (plain_star hp [a2] X.env) (any1 hp2)).weak fun σ H Q q => two_R2c q
theorem s_bi3B (hc : CallR X (.builtin id) (R3c c (bi3 f))) (hv : bootBuiltins x = some (.builtin id)) (hp : plainE a = true) (ha : PE X a (tE c W (ev R ia))) (hp2 : plainE a2 = true) (hb : PE X a2 (tE c W (ev R ib))) (hp3 : plainE a3 = true) (hb3 : PE X a3 (tE c W (ev R ic))) :
    PE X (.Call (.Name x p) [a, a2, a3] [] pos) (tE c W (ev R (.bi3 f ia ib ic))) :=
  (pe_callB hc hg hm hv (pa3 hp ha hp2 hb hp3 hb3) hn hdb (plain_star hp [a2, a3] X.env) (any2 hp2 hp3)).weak fun σ H Q q => three_R3c q
end

/-! ### a if t else b -/
theorem tM_end {fa : OI.Env → Store → Res (M × Pl)} {σ : L2.St} {S : Wd} {e : OI.Env} {s : Store} {Q : VK} (Rr : Rl c S e s σ) (p : PostG c W σ S s (outM (valM fa e s)) (rM c σ) Q) : tE c W fa σ S.H Q := by
  unfold outM at p
  exact valM_ok (k := fun m e s => Res.ok (m, Pl.tmp) e s) (rep := rM c) Rr p fun S1 e1 s1 m v R1 st1 rp p1 => p1 S1 v R1 (StE.refl S1 s1) ⟨rp, trivial⟩
theorem s_ife {t b : Expr} {it : IE} (ht : PT X t (tT c W (ev R it))) (ha : PE X a (tE c W (ev R ia))) (hb : PE X b (tE c W (ev R ib))) : PE X (.IfExp t a b pos) (tE c W (ev R (.ife it ia ib))) :=
  (pe_ifExp ht ha hb).weak fun σ H Q q => testB_ok (k := fun k => ifeK k (valM (ev R ia)) (valM (ev R ib))) (rep := rM c) q fun S e s k Rr p => by
    unfold ifeK at p
    cases k with
    | true => exact tM_end Rr p
    | false => exact tM_end Rr p

/-! ### isinstance -/
/-- the types of D that are built in -/
def Ty.name? : Ty → Option String
  | .tup => some "tuple"
  | .lst => some "list"
  | .str => some "str"
  | .bl => some "bool"
  | .int => some "int"
  | _ => none
/-- what tyIs says of a built-in type is what the kit says -/
theorem ty_of {S : Wd} {s : Store} {m : M} {v : V} {t : Ty} {n : String} {b : Bool} (Rr : RlS c S s) (r : RepV c S m v) (hn : t.name? = some n) (h : tyIs s m.frz t = some b) :
    ∃ ty, TyX c.K S.H v (.type ty) ∧ ∀ t n b, t.name? = some n → tyIs s m.frz t = some b → kitB ty n = some b := by
  have lst : ∀ p vs, v = .ref p → S.H p = some (.lst vs) → (∃ xs, m.frz = .lst xs) → ∃ ty, TyX c.K S.H v (.type ty) ∧ ∀ t n b, t.name? = some n → tyIs s m.frz t = some b → kitB ty n = some b := fun p vs e hf ⟨xs, ex⟩ => by
    subst e
    refine ⟨"list", .base (.lst hf), fun t n b hn h => ?_⟩
    rw [ex] at h
    cases t <;> cases hn <;> cases h <;> decide +kernel
  cases m with
  | ol xs => obtain ⟨p, vs, e, h1, _⟩ := r; exact lst p vs e h1 ⟨xs, rfl⟩
  | od u kvs => cases t <;> cases hn <;> cases h
  | val d =>
    cases d with
    | non =>
      cases r
      refine ⟨_, .base .non, fun t n b hn h => ?_⟩
      cases t <;> cases hn <;> cases h <;> decide +kernel
    | bl x =>
      cases r
      refine ⟨_, .base (.bl x), fun t n b hn h => ?_⟩
      cases t <;> cases hn <;> cases h <;> decide +kernel
    | int x =>
      cases r
      refine ⟨_, .base (.int x), fun t n b hn h => ?_⟩
      cases t <;> cases hn <;> cases h <;> decide +kernel
    | str x =>
      cases r
      refine ⟨_, .base (.str x), fun t n b hn h => ?_⟩
      cases t <;> cases hn <;> cases h <;> decide +kernel
    | tup xs =>
      obtain ⟨p, vs, rfl, hf, _⟩ := r
      have hk : TyX c.K S.H (.ref p) (.type "tuple") := by
        rcases hf with ⟨h | ⟨o, h⟩, _⟩ | ⟨o, its, n, h1, h2, _⟩
        · exact .base (.tup h)
        · exact .fTuple h
        · exact .kTuple h1 h2
      refine ⟨_, hk, fun t n b hn h => ?_⟩
      cases t <;> cases hn <;> cases h <;> decide +kernel
    | lst xs => obtain ⟨p, vs, e, h1, _⟩ := r; exact lst p vs e h1 ⟨xs, rfl⟩
    | scr ns => cases t <;> cases hn <;> cases h
    | dic u kvs => cases t <;> cases hn <;> cases h
    | lam _ _ => cases t <;> cases hn <;> cases h
    | exn x => cases t <;> cases hn <;> cases h
    | loc k =>
      obtain ⟨a, rfl, ha⟩ := r
      have key : ∀ t n b, Ty.name? t = some n → tyIs s (.loc k) t = some b → ∃ xs w, s[k]? = some ⟨.lst xs, w⟩ := fun t n b hn h => by
        cases t <;> cases hn <;> (unfold tyIs at h; dsimp only at h; split at h <;> first | exact ⟨_, _, by assumption⟩ | cases h)
      obtain ⟨xs, w, he⟩ := key t n b hn h
      obtain ⟨_, vs, h1, _⟩ := Rl.locs Rr ha he
      refine ⟨"list", .base (.lst h1), fun t n b hn h => ?_⟩
      have h2 : tyIs s (.loc k) t = some b := h
      unfold tyIs at h2
      dsimp only at h2
      rw [he] at h2
      cases t <;> cases hn <;> cases h2 <;> decide +kernel
theorem any_of {s : Store} {d : D} {ty : String} (k : ∀ t n b, t.name? = some n → tyIs s d t = some b → kitB ty n = some b) {K : PySem.W.Frag} : ∀ {ts : List Ty} {ns : List String} {b : Bool}, ts.mapM Ty.name? = some ns → tyAny s d ts = some b →
    PySem.W.kitAny K (.type ty) (ns.map Value.type) = some b
  | [], _, _, h1, h2 => by
    cases h1
    cases h2
    rfl
  | t :: ts, ns, b, h1, h2 => by
    rw [List.mapM_cons] at h1
    cases e : t.name? with
    | none => rw [e] at h1; cases h1
    | some n =>
      cases e2 : ts.mapM Ty.name? with
      | none => rw [e, e2] at h1; cases h1
      | some ms =>
        rw [e, e2] at h1
        have h1 : some (n :: ms) = some ns := h1
        cases h1
        unfold tyAny at h2
        split at h2
        · rename_i h3
          cases h2
          exact kitAny_cons (kit_ty (k t n true e h3)) (fun z => nomatch z) fun _ => rfl
        · rename_i h3
          exact kitAny_cons (kit_ty (k t n false e h3)) (fun _ => any_of k e2 h2) fun z => nomatch z
        · cases h2
theorem any_one {s : Store} {d : D} {t : Ty} {b : Bool} (h : tyAny s d [t] = some b) : tyIs s d t = some b := by
  unfold tyAny at h
  split at h
  · rename_i h3; cases h; exact h3
  · rename_i h3
    cases h
    exact h3
  · cases h
theorem isi_ok {o : Bool} {ts : List Ty} {σ : L2.St} {H : Hp} {Q : VK} {rest : V → Hp → Prop} (h : tE c W (ev R (.isi ia o ts)) σ H Q)
    (hr : ∀ S e s m pl v b, Rl c S e s σ → RepM c S pl m v → tyAny s m.frz ts = some b → PostG c W σ S s (.ok (.val (.bl b), .tmp) e s) (rM c σ) Q → rest v S.H) : tE c W (ev R ia) σ H rest := by
  obtain ⟨S, e, s, rfl, Rr, p⟩ := h
  refine ⟨S, e, s, rfl, Rr, PostG.bind Rr.toRlS p fun x1 e1 s1 S1 v1 q1 R1 st1 rp1 p1 => ?_⟩
  unfold isiK at p1
  obtain ⟨b, hb, p1⟩ := outB_ok p1
  exact hr S1 e1 s1 x1.1 x1.2 v1 b R1 rp1.1 hb p1
theorem s_isi1 {n : String} {t : Ty} {np : Pos} {nx : Str} (hK : X.K = c.K) (hg : Gl X "isinstance") (hm : X.mg "isinstance" = none) (hg2 : Gl X nx) (hm2 : X.mg nx = none) (hv : bootBuiltins nx = some (.type n)) (hn : nx ≠ "__name__") (hdb : (nx == ("__debug__" : Str)) = false)
    (ht : t.name? = some n) (hp : plainE a = true) (ha : PE X a (tE c W (ev R ia))) : PE X (.Call (.Name "isinstance" p) [a, .Name nx np] [] pos) (tE c W (ev R (.isi ia true [t]))) :=
  (pe_callB call_isi hg hm rfl (pa2 hp ha rfl (pe_bltn (v := .ty n) hg2 hm2 hv rfl hn hdb)) (by decide) (by decide) (plain_star hp _ X.env) (any1 rfl)).weak fun σ H Q q => isi_ok q fun S e s m pl v b Rr rp hb p => by
    obtain ⟨ty, h1, h2⟩ := ty_of Rr.toRlS rp.view ht (any_one hb)
    rw [← hK] at h1
    exact ⟨v, .ty n, _, _, b, rfl, .ty n, h1, kit_ty (h2 t n b ht (any_one hb)), end_val Rr p rfl⟩
/-- the names of built-in types, one after another -/
inductive TyNames (X : Cx) : List Expr → List String → Prop where
  | nil : TyNames X [] []
  | cons {x : Str} {n : String} {p : Pos} {as : List Expr} {ns : List String} (hg : Gl X x) (hm : X.mg x = none) (hv : bootBuiltins x = some (.type n)) (hn : x ≠ "__name__") (hdb : (x == ("__debug__" : Str)) = false) (r : TyNames X as ns) : TyNames X (.Name x p :: as) (n :: ns)
theorem TyNames.pa : ∀ {as : List Expr} {ns : List String}, TyNames X as ns → PA X as fun _ H Q => Q (ns.map V.ty) H
  | _, _, .nil => pa_nil
  | _, _, .cons hg hm hv hn hdb r => pa_cons (pe_bltn (v := .ty _) hg hm hv rfl hn hdb) r.pa rfl
theorem clsv : ∀ ns : List String, Paired ClsV (ns.map V.ty) (ns.map Value.type)
  | [] => .nil
  | n :: ns => .cons (.ty n) (clsv ns)
theorem s_isiT {ns : List String} {ts : List Ty} {tp : Pos} {k : Nat} {as : List Expr} (hK : X.K = c.K) (hg : Gl X "isinstance") (hm : X.mg "isinstance" = none) (hT : TyNames X as ns) (ht : ts.mapM Ty.name? = some ns) (h0 : ns ≠ []) (hl : ns.length ≤ 1000)
    (hp : plainE a = true) (ha : PE X a (tE c W (ev R ia))) : PE X (.Call (.Name "isinstance" p) [a, .Tuple as k tp] [] pos) (tE c W (ev R (.isi ia false ts))) :=
  (pe_callB call_isiT hg hm rfl (pa2 hp ha rfl (pe_tup hT.pa)) (by decide) (by decide) (plain_star hp _ X.env) (any1 rfl)).weak fun σ H Q q => isi_ok q fun S e s m pl v b Rr rp hb p => by
    refine ⟨by rw [List.length_map, sizeLine_eq]; omega, fun ad nq => ?_⟩
    have hlv : (ns.map V.ty).length ≤ 16777216 := by rw [List.length_map]; omega
    have al : Al c S (S.put ad (.tup (ns.map V.ty)) none) := Al.lay Rr.toRlS nq (.inl rfl) (HLo.tup hlv)
    have rp' : RepM c (S.put ad (.tup (ns.map V.ty)) none) pl m v := rp.step al.fr fun a ha => al.at Rr.dom ha
    have Rr' := al.rl Rr
    cases ts with
    | nil => cases ht; exact absurd rfl h0
    | cons t ts =>
      have hb' := hb
      rw [List.mapM_cons] at ht
      cases et : t.name? with
      | none => rw [et] at ht; cases ht
      | some n =>
        obtain ⟨b0, e0⟩ : ∃ b0, tyIs s m.frz t = some b0 := by
          unfold tyAny at hb'
          split at hb' <;> first | exact ⟨_, by assumption⟩ | cases hb'
        obtain ⟨ty, h1, h2⟩ := ty_of Rr'.toRlS rp'.view et e0
        rw [← hK] at h1
        refine ⟨v, ad, _, _, _, b, rfl, upd_same, clsv ns, h1, any_of (ts := t :: ts) h2 (by rw [List.mapM_cons]; exact ht) hb, ?_⟩
        exact end_val Rr' (PostG.shift Rr.toRlS (al.ste Rr.dom s) p) rfl
end
end OI

/-! OIk1: max(xs, default=d), called. -/
namespace OI
open PySem PySem.Spec PyProof.Rows L2
section
variable {X : Cx} {c : Cn} {W : WX} {R : Runs}
def rMaxd (c : Cn) (vs zs : List V) (H : Hp) (Q : VK) : Prop :=
  match vs, zs with
  | [v], [z] => R2c c (bi2 "maxd") [v, z] H Q
  | _, _ => False
theorem rMaxd_inv {vs zs : List V} {H : Hp} {Q : VK} (h : rMaxd c vs zs H Q) : ∃ v z, vs = [v] ∧ zs = [z] ∧ R2c c (bi2 "maxd") [v, z] H Q := by
  unfold rMaxd at h
  split at h
  · exact ⟨_, _, rfl, rfl, h⟩
  · exact h.elim
theorem b_maxd (hK : X.K = c.K) (hc : X.calm = true) : CallRK X (.builtin "max") [Str.ofString "default"] (rMaxd c) := by
  intro pins s σ H vs zs us ws Q I rs rz h
  obtain ⟨v, z, rfl, rfl, S, st, m1, m2, x, y, m, e, rfl, R, r1, r2, hm, q⟩ := rMaxd_inv h
  cases e
  obtain ⟨w1, rfl, e1⟩ := vals1 rz
  unfold bi2 at hm
  simp only at hm
  split at hm
  · rename_i j e2
    cases hm
    obtain ⟨p, rfl, h1⟩ := lints_of e2 r1
    cases r2
    rw [Vals.ref1 rs]
    rw [← hK] at h1
    obtain ⟨its, rv, hl, _⟩ := I.list h1
    obtain ⟨xs, ex⟩ := rv.ints.allInts.items
    have hn := rv.ints.length
    have hl := hl.isList
    rw [ex] at hl
    refine Mx.call_list _ (I.ok.hd hc) hl fun u h' tk hu hk => ?_
    have h0 : xs.size = 0 := by
      have h2 : its.length = 0 := by simpa using hn
      have h3 : its.toArray.size = (intItems xs).size := by rw [ex]
      simp [intItems] at h3
      omega
    rcases hu with ⟨_, rfl⟩ | ⟨h2, _⟩
    · exact ⟨.int j, S.H, I.kept hk, e1, q S _ (Al.refl R) rfl⟩
    · omega
  · rename_i n ns k e2
    cases hm
    obtain ⟨p, rfl, h1⟩ := lints_of e2 r1
    obtain ⟨g1, g2⟩ := maxI_mem n ns
    rw [Vals.ref1 rs]
    rw [← hK] at h1
    obtain ⟨its, rv, hl, _⟩ := I.list h1
    obtain ⟨xs, ex⟩ := rv.ints.allInts.items
    have hn : numsOf (intItems xs).toList = n :: ns := by rw [← ex]; exact rv.ints.numsOf
    have hl := hl.isList
    rw [ex] at hl
    rw [nums_intItems] at hn
    have hlen : xs.size = ns.length + 1 := by
      have := congrArg List.length hn
      simpa using this
    refine Mx.call_list _ (I.ok.hd hc) hl fun u h' tk hu hk => ?_
    rcases hu with ⟨h2, _⟩ | ⟨_, hv⟩
    · omega
    obtain ⟨t, rfl⟩ := intItems_at hv
    obtain ⟨a1, a2⟩ := argBest_gt (numAt xs) (xs.size - 1)
    have e3 : numAt xs (argBest (fun i j => decide (numAt xs i > numAt xs j)) (xs.size - 1)) = maxI (n :: ns) := by
      refine Int.le_antisymm (g2 _ ?_) ?_
      · rw [← hn, numAt_eq]
        exact PySem.getD_mem (by rw [List.length_map, Array.length_toList]; omega)
      · rw [← hn] at g1
        obtain ⟨j, hj, e4⟩ := mem_getD g1
        rw [List.length_map, Array.length_toList] at hj
        rw [hn] at e4
        rw [← e4, ← hn, ← numAt_eq]
        exact a2 j (by omega)
    exact ⟨.int _, S.H, I.kept hk, ⟨t, by rw [e3]⟩, q S _ (Al.refl R) rfl⟩
  · cases hm
variable {x : Str} {p pos kp : Pos} {a a2 : Expr} {ia ib : IE}
theorem s_maxd (hg : Gl X x) (hm : X.mg x = none) (hn : x ≠ "__name__") (hdb : (x == ("__debug__" : Str)) = false) (hK : X.K = c.K) (hc : X.calm = true) (hv : bootBuiltins x = some (.builtin "max")) (hp : plainE a = true) (ha : PE X a (tE c W (ev R ia))) (hb : PE X a2 (tE c W (ev R ib))) : PE X (.Call (.Name x p) [a] [⟨some (Str.ofString "default"), a2, kp⟩] pos) (tE c W (ev R (.bi2 "maxd" ia ib))) :=
  (pe_callBK (b_maxd hK hc) hg hm hv (pa1 hp ha) (pk_cons hb pk_nil) hn hdb (by rw [star1 hp]; rfl) (any1 hp)).weak fun σ H Q q => by
    have h := two_R2c (k := bi2 "maxd") q
    exact h
end
end OI

/-! OIl: what a def promises; a call of it. -/
namespace OI
open PySem PySem.Spec PyProof.Rows L2
variable {c : Cn}

/-- labels of no source are exchanged -/
structure Sim (S S' : Wd) : Prop where
  H : S'.H = S.H
  am : S'.am = S.am
  ow : ∀ a, S'.ow a = S.ow a ∨ ((∃ x, S.ow a = some x ∧ x.src = none) ∧ ∃ y, S'.ow a = some y ∧ y.src = none)
theorem Sim.fr {S S' : Wd} (h : Sim S S') : Fr S S' := ⟨fun a o h1 h2 _ => ⟨by rw [h.H]; exact h1, by
  rcases h.ow a with e | ⟨⟨x, e, _⟩, _⟩
  · rw [e]; exact h2
  · rw [h2] at e; cases e⟩, [], by rw [h.am, List.append_nil]⟩
theorem Sim.srcs {S S' : Wd} (h : Sim S S') {a : Addr} {q : Pl} {n : Nat} (h1 : S.ow a = some q) (h2 : q.src = some n) : S'.ow a = some q := by
  rcases h.ow a with e | ⟨⟨x, e, hx⟩, _⟩
  · rw [e]; exact h1
  · rw [h1] at e; cases e; rw [h2] at hx; cases hx
theorem Sim.srcs' {S S' : Wd} (h : Sim S S') {a : Addr} {q : Pl} {n : Nat} (h1 : S'.ow a = some q) (h2 : q.src = some n) : S.ow a = some q := by
  rcases h.ow a with e | ⟨_, y, e, hx⟩
  · rw [← e]; exact h1
  · rw [h1] at e; cases e; rw [h2] at hx; cases hx
theorem Sim.rls {S S' : Wd} {s : Store} (h : Sim S S') (R : RlS c S s) : RlS c S' s :=
  R.step h.fr (fun p q n h1 h2 => ⟨by rw [h.H], h.srcs h1 h2⟩) h.am (fun a ha => by
    rw [h.H]
    rcases h.ow a with e | ⟨⟨x, e, _⟩, _⟩
    · rw [e] at ha; exact R.dom a ha
    · exact R.dom a (by rw [e]; simp)) (fun a q n h1 h2 => R.src a q n (h.srcs' h1 h2) h2) (by rw [h.H]; exact R.hl)
theorem Sim.repM {S S' : Wd} (h : Sim S S') {pl : Pl} {m : M} {v : V} (r : RepM c S pl m v) (k : ∀ p, S.ow p = some pl → S'.ow p = some pl) : RepM c S' pl m v := r.step h.fr fun p hp => ⟨by rw [h.H], k p hp⟩

/-- no slot's -/
def NoSl (S : Wd) : Prop := ∀ a i, S.ow a ≠ some (.slot i)
/-- the slots' containers are others' now -/
def maskP (q : Option Pl) : Option Pl :=
  match q with
  | some (.slot _) => some .oth
  | x => x
def unmaskP (q r : Option Pl) : Option Pl :=
  match q with
  | some (.slot i) => some (.slot i)
  | _ => r
def Wd.mask (S : Wd) : Wd := { S with ow := fun a => maskP (S.ow a) }
/-- .. and are the slots' again -/
def Wd.unmask (S S' : Wd) : Wd := { S' with ow := fun a => unmaskP (S.ow a) (S'.ow a) }
theorem mask_slot {S : Wd} {a : Addr} {i : Nat} (h : S.ow a = some (.slot i)) : S.mask.ow a = some .oth := by
  show maskP (S.ow a) = _
  rw [h]
  rfl
theorem mask_ne {S : Wd} {a : Addr} (h : ∀ i, S.ow a ≠ some (.slot i)) : S.mask.ow a = S.ow a := by
  show maskP (S.ow a) = _
  unfold maskP
  split
  · rename_i i e; exact absurd e (h i)
  · rfl
theorem unmask_slot {S S' : Wd} {a : Addr} {i : Nat} (h : S.ow a = some (.slot i)) : (S.unmask S').ow a = some (.slot i) := by
  show unmaskP (S.ow a) _ = _
  rw [h]
  rfl
theorem unmask_ne {S S' : Wd} {a : Addr} (h : ∀ i, S.ow a ≠ some (.slot i)) : (S.unmask S').ow a = S'.ow a := by
  show unmaskP (S.ow a) _ = _
  unfold unmaskP
  split
  · rename_i i e; exact absurd e (h i)
  · rfl
theorem slot_or (S : Wd) (a : Addr) : (∃ i, S.ow a = some (.slot i)) ∨ ∀ i, S.ow a ≠ some (.slot i) := by
  by_cases h : ∃ i, S.ow a = some (.slot i)
  · exact .inl h
  · exact .inr fun i e => h ⟨i, e⟩
theorem mask_noSl (S : Wd) : NoSl S.mask := fun a i => by
  rcases slot_or S a with ⟨j, h⟩ | h
  · rw [mask_slot h]; simp
  · rw [mask_ne h]; exact h i
theorem mask_sim (S : Wd) : Sim S S.mask := ⟨rfl, rfl, fun a => by
  rcases slot_or S a with ⟨j, h⟩ | h
  · exact .inr ⟨⟨_, h, rfl⟩, _, mask_slot h, rfl⟩
  · exact .inl (mask_ne h)⟩
section
variable {S S' : Wd} {s s' : Store} {e : OI.Env} {σ : L2.St}
theorem unmask_sim (st : StC S.mask S' s s') : Sim S' (S.unmask S') := ⟨rfl, rfl, fun a => by
  rcases slot_or S a with ⟨j, h⟩ | h
  · exact .inr ⟨⟨_, (st.oth a (mask_slot h)).2, rfl⟩, _, unmask_slot h, rfl⟩
  · exact .inl (unmask_ne h)⟩
theorem unmask_ste (st : StC S.mask S' s s') : StE S (S.unmask S') s s' where
  keep := fun a o h1 h2 h3 => by
    have ns : ∀ i, S.ow a ≠ some (.slot i) := fun i z => by rw [h2] at z; cases z
    obtain ⟨x, y⟩ := st.keep a o h1 (by rw [mask_ne ns]; exact h2) h3
    exact ⟨x, by rw [unmask_ne ns]; exact y⟩
  am := st.am
  ver := st.ver
  ent := fun n en h1 h2 a p hp hn => by
    have ns : ∀ i, S.ow a ≠ some (.slot i) := fun i z => by rw [hp] at z; cases z; cases hn
    obtain ⟨x, y⟩ := st.ent n en h1 h2 a p (by rw [mask_ne ns]; exact hp) hn
    exact ⟨x, by rw [unmask_ne ns]; exact y⟩
  oth := fun a hp => by
    have ns : ∀ i, S.ow a ≠ some (.slot i) := fun i z => by rw [hp] at z; cases z
    obtain ⟨x, y⟩ := st.oth a (by rw [mask_ne ns]; exact hp)
    exact ⟨x, by rw [unmask_ne ns]; exact y⟩
  slot := fun a i hp => ⟨(st.oth a (mask_slot hp)).1, .inl (unmask_slot hp)⟩
theorem unmask_rl (R : Rl c S e s σ) (R' : RlS c S' s') (st : StC S.mask S' s s') : Rl c (S.unmask S') e s' σ where
  toRlS := (unmask_sim st).rls R'
  elen := R.elen
  slot := fun i m h => by
    obtain ⟨v, h1, h2⟩ := R.slot i m h
    have u := unmask_ste st
    exact ⟨v, h1, h2.step u.toFr fun p hp => ⟨(u.slot p i hp).1, unmask_slot hp⟩⟩
theorem unmask_tmp (st : StC S.mask S' s s') {m : M} {v : V} (r : RepM c S' .tmp m v) : RepM c (S.unmask S') .tmp m v :=
  (unmask_sim st).repM r fun p hp => by
    rcases slot_or S p with ⟨j, h⟩ | h
    · rw [(st.oth p (mask_slot h)).2] at hp; cases hp
    · rw [unmask_ne h]; exact hp
end
/-- what became of a call, as the caller is told -/
def PostF (c : Cn) (S : Wd) (s : Store) (r : RR) (Q : VK) (E : XK) : Prop :=
  match r with
  | .ok m s' => ∀ S' v, RlS c S' s' → StC S S' s s' → NoSl S' → RepM c S' .tmp m v → Q v S'.H
  | .err k s' => ∀ S', RlS c S' s' → StC S S' s s' → NoSl S' → E (.ref (c.cls k)) none S'.H
  | .bad => False
/-- a def's promise: its run by OI -/
def spF (c : Cn) (R : Runs) (f : String) (np : Nat) : Sp := fun vs H Q E => ∃ S s ds, S.H = H ∧ RlS c S s ∧ NoSl S ∧ RepDs c S ds vs ∧ ds.length = np ∧ PostF c S s (R f ds s) Q E
section
variable {X : Cx} {W : WX} {R : Runs}
theorem call_of {f : String} {S : Wd} {s : Store} {e : OI.Env} {σ : L2.St} {ds : List D} {vs : List V} {Q : VK} (Rr : Rl c S e s σ) (r : RepDs c S ds vs) (p : PostG c W σ S s (callK R f ds e s) (rM c σ) Q) : spF c R f ds.length vs S.H Q (WE W σ) := by
  refine ⟨S.mask, s, ds, rfl, (mask_sim S).rls Rr.toRlS, mask_noSl S, r.mono (mask_sim S).fr, rfl, ?_⟩
  unfold callK at p
  cases h : R f ds s with
  | ok m s' =>
    rw [h] at p
    exact fun S' v R' st ns rp => p (S.unmask S') v (unmask_rl Rr R' st) (unmask_ste st) ⟨unmask_tmp st rp, trivial⟩
  | err k s' =>
    rw [h] at p
    exact fun S' R' st ns => p (S.unmask S') (unmask_rl Rr R' st) (unmask_ste st)
  | bad => rw [h] at p; exact p
/-- a def of the text, as a body may call it -/
structure FnI (X : Cx) (c : Cn) (R : Runs) (k : Nat) (f : String) (np : Nat) : Prop where
  some : ∃ fa fd ps, X.mg (Str.ofString f) = .some (.ref fa) ∧ PySem.W.keepIn X.K (.ref fa) = true ∧ Binds X.K fd ps [] ∧ ps.length = np ∧ FnOk X.prog X.w X.K X.mg X.base (L2.CX X.prog X.w) k fa fd ps (spF c R f np)
theorem any_plain {es : List Expr} {pos : Pos} (h : es.all plainE = true) : (backTo pos (starEach es X.env)).any (·.1) = false := by
  induction es with
  | nil => rfl
  | cons a r ih =>
    rw [List.all_cons, Bool.and_eq_true] at h
    rw [plain_star h.1]
    have := ih h.2
    unfold backTo at this ⊢
    rw [List.map_cons, List.any_cons, this]
    rfl
theorem s_call {f : String} {k np : Nat} {a : Expr} {as : List Expr} {ias : IEs} {p pos : Pos} (F : FnI X c R k f np) (hr : Room k X.A) (hg : Gl X (Str.ofString f)) (tk : Takes X W) (hn : ias.len = np) (ha : PA X (a :: as) (tA c W (evs R ias))) (hdb : (Str.ofString f == ("__debug__" : Str)) = false)
    (hp : (a :: as).all plainE = true) : PE X (.Call (.Name (Str.ofString f) p) (a :: as) [] pos) (tE c W (ev R (.call f ias))) := by
  obtain ⟨fa, fd, ps, h1, h2, h3, h4, h5⟩ := F.some
  rw [List.all_cons, Bool.and_eq_true] at hp
  exact (pe_callS h5 hr hg h1 h2 h3 (fun σ => passAt tk σ) ha hdb (plain_star hp.1 as X.env) (any_plain hp.2)).weak fun σ H Q q =>
    args_ok (k := callK R f) (rep := rM c) q fun S e s ds vs Rr r hl p => by
      have := call_of Rr r p
      rw [hl, hn] at this
      exact this
end
end OI

/-! OIm: statements: what a step of them keeps, their readings; assignments, returns, tests. -/
namespace OI
open PySem PySem.Spec PyProof.Rows L2

/-- a statement's step: the slots ws may be stored or changed -/
structure StS (ws : List Nat) (S S' : Wd) (s s' : Store) : Prop extends StC S S' s s' where
  slot : ∀ a i, i ∉ ws → S.ow a = some (.slot i) → S'.H a = S.H a ∧ (S'.ow a = some (.slot i) ∨ (S'.ow a = none ∧ NoTb (S'.H a)))
theorem StE.sts {S S' : Wd} {s s' : Store} (h : StE S S' s s') (ws : List Nat) : StS ws S S' s s' := ⟨h.toStC, fun a i _ => h.slot a i⟩
theorem StS.refl (ws : List Nat) (S : Wd) (s : Store) : StS ws S S s s := (StE.refl S s).sts ws
theorem StS.mono {ws ws' : List Nat} {S S' : Wd} {s s' : Store} (h : StS ws S S' s s') (k : ∀ i ∈ ws, i ∈ ws') : StS ws' S S' s s' := ⟨h.toStC, fun a i hi => h.slot a i fun z => hi (k i z)⟩
theorem StS.trans {ws : List Nat} {S S1 S2 : Wd} {s s1 s2 : Store} (dom : ∀ a, S.ow a ≠ none → Dm a (S.H a)) (a : StS ws S S1 s s1) (b : StS ws S1 S2 s1 s2) : StS ws S S2 s s2 where
  toStC := a.toStC.trans b.toStC
  slot := fun p i hi hp => by
    obtain ⟨x1, x2⟩ := a.slot p i hi hp
    rcases x2 with x2 | x2
    · obtain ⟨y1, y2⟩ := b.slot p i hi x2
      exact ⟨y1.trans x1, y2⟩
    · cases e : S.H p with
      | none => exact absurd e (dom p (by rw [hp]; simp)).ne
      | some o =>
        have h1 : S1.H p = some o := x1.trans e
        obtain ⟨y1, y2⟩ := b.keep p o h1 x2.1 fun ps z => x2.2 ps (by rw [h1, z])
        exact ⟨y1, .inr ⟨y2, fun ps => by rw [y1, ← h1]; exact x2.2 ps⟩⟩

def PostS (c : Cn) (W : WX) (ws : List Nat) (S : Wd) (s : Store) (r : Res Flow) (D : Ends) : Prop :=
  match r with
  | .ok .nx e' s' => ∀ S' σ', Rl c S' e' s' σ' → StS ws S S' s s' → D.nx σ' S'.H
  | .ok (.ret m) _ s' => ∀ S' v, RlS c S' s' → StC S S' s s' → RepM c S' .tmp m v → D.rt v S'.H
  | .err k e' s' => ∀ S' σ', Rl c S' e' s' σ' → StS ws S S' s s' → W (.ref (c.cls k)) none σ' S'.H
  | .bad => False
def tS (c : Cn) (W : WX) (ws : List Nat) (f : OI.Env → Store → Res Flow) : TS := fun D σ H => ∃ S e s, S.H = H ∧ Rl c S e s σ ∧ PostS c W ws S s (f e s) D
theorem _root_.L2.PS.weak {X : Cx} {a : Stmt} {t u : TS} (h : PS X a u) (k : ∀ D σ H, t D σ H → u D σ H) : PS X a t := ⟨fun pins s σ H D I q => h.run pins s σ H D I (k D σ H q)⟩
theorem _root_.L2.PSs.weak {X : Cx} {a : List Stmt} {t u : TS} (h : PSs X a u) (k : ∀ D σ H, t D σ H → u D σ H) : PSs X a t := ⟨fun pins s σ H D I q => h.run pins s σ H D I (k D σ H q)⟩

section
variable {c : Cn} {W : WX} {ws : List Nat} {σ : L2.St} {S S1 : Wd} {s s1 : Store} {e : OI.Env} {D : Ends}
theorem PostS.shift {r : Res Flow} (R : RlS c S s) (st : StS ws S S1 s s1) (h : PostS c W ws S s r D) : PostS c W ws S1 s1 r D := by
  cases r with
  | ok f e' s' =>
    cases f with
    | nx => exact fun S' σ' R' st' => h S' σ' R' (st.trans R.dom st')
    | ret m => exact fun S' v R' st' rp => h S' v R' (st.toStC.trans st') rp
  | err k e' s' => exact fun S' σ' R' st' => h S' σ' R' (st.trans R.dom st')
  | bad => exact h
theorem PostS.mono {ws' : List Nat} {r : Res Flow} (h : PostS c W ws' S s r D) (k : ∀ i ∈ ws, i ∈ ws') : PostS c W ws S s r D := by
  cases r with
  | ok f e' s' =>
    cases f with
    | nx => exact fun S' σ' R' st' => h S' σ' R' (st'.mono k)
    | ret m => exact h
  | err k' e' s' => exact fun S' σ' R' st' => h S' σ' R' (st'.mono k)
  | bad => exact h
/-- an expression first, then the rest -/
theorem PostS.bindE {α β : Type} {r : Res α} {k : α → OI.Env → Store → Res Flow} {rep : Wd → Store → α → β → Prop} {G : β → Hp → Prop} (R : RlS c S s) (h : PostS c W ws S s (r.bind k) D)
    (g : ∀ x e1 s1 S1 y, r = .ok x e1 s1 → Rl c S1 e1 s1 σ → StE S S1 s s1 → rep S1 s1 x y → PostS c W ws S1 s1 (k x e1 s1) D → G y S1.H) : PostG c W σ S s r rep G := by
  cases r with
  | ok x e1 s1 => exact fun S1 y R1 st rp => g x e1 s1 S1 y rfl R1 st rp (PostS.shift R (st.sts ws) h)
  | err k' e1 s1 => exact fun S' R' st' => h S' σ R' (st'.sts ws)
  | bad => exact h
/-- a statement first, then the rest -/
theorem PostS.bindS {r : Res Flow} {k : OI.Env → Store → Res Flow} (R : RlS c S s) (h : PostS c W ws S s (r.bind fun f e s => match f with
      | .nx => k e s
      | .ret m => .ok (.ret m) e s) D) {N : L2.St → Hp → Prop} (g : ∀ e1 s1 S1 σ1, r = .ok .nx e1 s1 → Rl c S1 e1 s1 σ1 → StS ws S S1 s s1 → PostS c W ws S1 s1 (k e1 s1) D → N σ1 S1.H) : PostS c W ws S s r { D with nx := N } := by
  cases r with
  | ok f e1 s1 =>
    cases f with
    | nx => exact fun S1 σ1 R1 st => g e1 s1 S1 σ1 rfl R1 st (PostS.shift R st h)
    | ret m => exact h
  | err k' e1 s1 => exact h
  | bad => exact h
theorem vl_okS {x : M × Pl} {v : V} {k : M → OI.Env → Store → Res Flow} {G : Prop} (Rr : Rl c S e s σ) (rp : rM c σ S s x v)
    (h : PostS c W ws S s ((vl x.1 x.2 e s).bind k) D) (g : ∀ S1 m e1, Rl c S1 e1 s σ → StE S S1 s s → S1.H = S.H → RepM c S1 .tmp m v → PostS c W ws S1 s (k m e1 s) D → G) : G := by
  obtain ⟨m, pl⟩ := x
  obtain ⟨r1, r2⟩ := rp
  have other : ∀ (hm : m.isVal = false), G := fun hm => by
    dsimp only at h
    cases pl with
    | slot i =>
      have e0 : vl m (.slot i) e s = .ok (.val m.frz) (e.set i (some (.val m.frz))) s := by
        cases m <;> first | rfl | cases hm
      rw [e0] at h
      have hlt : i < e.length := by
        rw [Rr.elen]
        exact (List.getElem?_eq_some_iff.mp r2).1
      obtain ⟨S1, R1, hH, hd, st⟩ := Rr.frzSlot hm r2 r1 hlt
      exact g S1 (.val m.frz) _ R1 st hH hd (PostS.shift Rr.toRlS (st.sts ws) h)
    | tmp =>
      have e0 : vl m .tmp e s = .ok m e s := by
        cases m <;> first | rfl | cases hm
      rw [e0] at h
      exact g S m e Rr (StE.refl S s) rfl r1 h
    | fld n f =>
      have e0 : vl m (.fld n f) e s = .bad := by
        cases m <;> first | rfl | cases hm
      rw [e0] at h
      exact h.elim
    | obj n => exact r2.elim
    | oth => exact r2.elim
  cases m with
  | val d => exact g S (.val d) e Rr (StE.refl S s) rfl r1 h
  | ol xs => exact other rfl
  | od t kvs => exact other rfl
theorem valM_okS {fa : OI.Env → Store → Res (M × Pl)} {k : M → OI.Env → Store → Res Flow} {rest : V → Hp → Prop} (Rr : Rl c S e s σ)
    (h : PostS c W ws S s ((valM fa e s).bind k) D) (hr : ∀ S1 e1 s1 m v, Rl c S1 e1 s1 σ → StE S S1 s s1 → RepM c S1 .tmp m v → PostS c W ws S1 s1 (k m e1 s1) D → rest v S1.H) : tE c W fa σ S.H rest := by
  unfold valM at h
  rw [Res.bind_bind] at h
  refine ⟨S, e, s, rfl, Rr, PostS.bindE Rr.toRlS h fun x e1 s1 S1 v q1 R1 st1 rp1 p1 => ?_⟩
  refine vl_okS R1 rp1 p1 fun S2 m e2 R2 st2 hH rp2 p2 => ?_
  rw [← hH]
  exact hr S2 e2 s1 m v R2 (st1.trans Rr.dom st2) rp2 p2
theorem valD_okS {fa : OI.Env → Store → Res (M × Pl)} {k : OI.D → OI.Env → Store → Res Flow} {rest : V → Hp → Prop} (Rr : Rl c S e s σ)
    (h : PostS c W ws S s ((valD fa e s).bind k) D) (hr : ∀ S1 e1 s1 d v, Rl c S1 e1 s1 σ → StE S S1 s s1 → RepD c S1 d v → PostS c W ws S1 s1 (k d e1 s1) D → rest v S1.H) : tE c W fa σ S.H rest := by
  unfold valD at h
  rw [Res.bind_bind] at h
  refine ⟨S, e, s, rfl, Rr, PostS.bindE Rr.toRlS h fun x e1 s1 S1 v q1 R1 st1 rp1 p1 => ?_⟩
  rw [Res.bind_bind] at p1
  refine vl_okS R1 rp1 p1 fun S2 m e2 R2 st2 hH rp2 p2 => ?_
  obtain ⟨S3, R3, hH3, hd, st3⟩ := frz_ste R2 rp2
  rw [← hH, ← hH3]
  exact hr S3 e2 s1 m.frz v R3 ((st1.trans Rr.dom st2).trans Rr.dom st3) hd (PostS.shift R2.toRlS (st3.sts ws) p2)

/-! ### nothing was changed: the slots have their containers again -/
theorem restore {e1 : OI.Env} (R : Rl c S e s σ) (R1 : Rl c S1 e1 s σ) (st : StE S S1 s s) : Rl c (S.unmask S1) e s σ ∧ StE S (S.unmask S1) s s := by
  have ns : ∀ {a : Addr} {q : Option Pl}, S.ow a = q → (∀ i, q ≠ some (.slot i)) → ∀ i, S.ow a ≠ some (.slot i) := fun h1 h2 i z => h2 i (by rw [← h1]; exact z)
  have fr : Fr S (S.unmask S1) := ⟨fun a o h1 h2 h3 => by
    obtain ⟨x, y⟩ := st.keep a o h1 h2 h3
    exact ⟨x, by rw [unmask_ne (ns h2 (by simp))]; exact y⟩, st.am⟩
  have ste : StE S (S.unmask S1) s s := ⟨⟨fr, VerS.refl s, fun n en h1 h2 a p hp hn => by
      obtain ⟨x, y⟩ := st.ent n en h1 h2 a p hp hn
      exact ⟨x, by rw [unmask_ne (ns hp (fun i z => by cases z; cases hn))]; exact y⟩, fun a hp => by
      obtain ⟨x, y⟩ := st.oth a hp
      exact ⟨x, by rw [unmask_ne (ns hp (by simp))]; exact y⟩⟩, fun a i hp => ⟨(st.slot a i hp).1, .inl (unmask_slot hp)⟩⟩
  have am : (S.unmask S1).am = S.am := by
    show S1.am = S.am
    obtain ⟨more, em⟩ := st.am
    have h1 := R1.len
    have h2 := R.len
    rw [em, List.length_append] at h1
    have : more = [] := List.length_eq_zero_iff.mp (by omega)
    rw [em, this, List.append_nil]
  refine ⟨R.step fr (fun p q n hp hn => ?_) (fun p i hp => ⟨(st.slot p i hp).1, unmask_slot hp⟩) am (fun a ha => ?_) (fun a q n h1 h2 => ?_) R1.hl, ste⟩
  · have hlt := R.src p q n hp hn
    have he := List.getElem?_eq_getElem hlt
    obtain ⟨x, y⟩ := st.ent n _ he he p q hp hn
    exact ⟨x, by rw [unmask_ne (ns hp (fun i z => by cases z; cases hn))]; exact y⟩
  · show Dm a (S1.H a)
    rcases slot_or S a with ⟨j, h⟩ | h
    · rw [(st.slot a j h).1]
      exact R.dom a (by rw [h]; simp)
    · rw [unmask_ne h] at ha
      exact R1.dom a ha
  · rcases slot_or S a with ⟨j, h⟩ | h
    · rw [unmask_slot h] at h1
      cases h1
      cases h2
    · rw [unmask_ne h] at h1
      exact R1.src a q n h1 h2
theorem flat_rep {pl pl' : Pl} {S' : Wd} {m : M} {v : V} (h : m.flat = true) (r : RepM c S pl m v) : RepM c S' pl' m v := by
  cases m with
  | val d => cases d <;> first | exact r | cases h
  | ol _ => cases h
  | od _ _ => cases h
/-- a statement's test -/
theorem test_okS {fa : OI.Env → Store → Res (M × Pl)} {k : Bool → OI.Env → Store → Res Flow} {rest : Bool → Hp → Prop} (Rr : Rl c S e s σ) (h : PostS c W ws S s ((testS fa e s).bind k) D)
    (hr : ∀ S1 e1 s1 b, Rl c S1 e1 s1 σ → StE S S1 s s1 → PostS c W ws S1 s1 (k b e1 s1) D → rest b S1.H) : tT c W fa σ S.H rest := by
  unfold testS at h
  rw [Res.bind_bind] at h
  refine ⟨S, e, s, rfl, Rr, PostS.bindE Rr.toRlS h fun b e1 s1 S1 b' q1 R1 st1 rp1 p1 => ?_⟩
  cases rp1
  have p1 : PostS c W ws S1 s1 (k b (if s1 = s then e else e1) s1) D := p1
  by_cases hs : s1 = s
  · subst hs
    rw [if_pos rfl] at p1
    obtain ⟨R2, st2⟩ := restore Rr R1 st1
    have h2 : PostS c W ws S s1 ((testB fa e s1).bind fun b e1 s2 => k b (if s2 = s1 then e else e1) s2) D := h
    rw [q1] at h2
    have h2 : PostS c W ws S s1 (k b (if s1 = s1 then e else e1) s1) D := h2
    rw [if_pos rfl] at h2
    exact hr (S.unmask S1) e s1 b R2 st2 (PostS.shift Rr.toRlS (st2.sts ws) h2)
  · rw [if_neg hs] at p1
    exact hr S1 e1 s1 b R1 st1 p1
end

/-! ### targets -/
section
variable {c : Cn} {S : Wd} {s : Store} {e : OI.Env} {σ : L2.St}
def gNames : List Nat → TGs
  | [] => gNil
  | i :: is => gCons (gName i) (gNames is)
def gT (K : PySem.W.Frag) : Tg → TG
  | .one i => gName i
  | .many is => gTup K is.length (gNames is)
/-- a slot is stored -/
theorem set_slot {i : Nat} {m : M} {v : V} (R : Rl c S e s σ) (hi : i < e.length) (r : RepM c S .tmp m v) : ∃ S', S'.H = S.H ∧ Rl c S' (e.set i (some m)) s (σ.set i (some v)) ∧ StS [i] S S' s s := by
  have main : ∀ S', S'.H = S.H → StS [i] S S' s s → RlS c S' s → (∀ j m w, RepM c S (.slot j) m w → RepM c S' (.slot j) m w) → RepM c S' (.slot i) m v → ∃ S', S'.H = S.H ∧ Rl c S' (e.set i (some m)) s (σ.set i (some v)) ∧ StS [i] S S' s s := fun S' hH st R' hj hm =>
    ⟨S', hH, ⟨R', by rw [List.length_set, List.length_set]; exact R.elen, fun j m' h => by
      by_cases z : i = j
      · subst z
        rw [List.getElem?_set_self hi] at h
        cases h
        exact ⟨v, by rw [List.getElem?_set_self (by rw [← R.elen]; exact hi)], hm⟩
      · rw [List.getElem?_set_ne z] at h
        obtain ⟨w, h1, h2⟩ := R.slot j m' h
        exact ⟨w, by rw [List.getElem?_set_ne z]; exact h1, hj j m' w h2⟩⟩, st⟩
  have lab : ∀ p, S.ow p = some .tmp → RepM c (S.lab p (some (.slot i))) (.slot i) m v → ∃ S', S'.H = S.H ∧ Rl c S' (e.set i (some m)) s (σ.set i (some v)) ∧ StS [i] S S' s s := fun p hp hm => by
    have R2 := lab_tmp (q := some (.slot i)) R hp
    exact main (S.lab p (some (.slot i))) rfl ((lab_ste hp).sts [i]) R2.toRlS (fun j m' w h => h.step (lab_fr (by rw [hp]; simp)) fun a ha => ⟨rfl, by rw [lab_ne (fun z => by subst z; rw [hp] at ha; cases ha)]; exact ha⟩) hm
  cases m with
  | val d => exact main S rfl (StS.refl _ _ _) R.toRlS (fun j m' w h => h) r
  | ol xs =>
    obtain ⟨p, vs, e1, h1, h2, h3⟩ := r
    exact lab p h2 ⟨p, vs, e1, h1, lab_same, h3.mono (lab_fr (by rw [h2]; simp))⟩
  | od t kvs =>
    obtain ⟨p, vs, e1, h1, h2, h3⟩ := r
    exact lab p h2 ⟨p, vs, e1, h1, lab_same, h3.mono (lab_fr (by rw [h2]; simp))⟩
theorem set_val {i : Nat} {d : D} {v : V} (R : Rl c S e s σ) (hi : i < e.length) (r : RepD c S d v) : Rl c S (e.set i (some (.val d))) s (σ.set i (some v)) where
  toRlS := R.toRlS
  elen := by rw [List.length_set, List.length_set]; exact R.elen
  slot := fun j m' h => by
    by_cases z : i = j
    · subst z
      rw [List.getElem?_set_self hi] at h
      cases h
      exact ⟨v, by rw [List.getElem?_set_self (by rw [← R.elen]; exact hi)], r⟩
    · rw [List.getElem?_set_ne z] at h
      obtain ⟨w, h1, h2⟩ := R.slot j m' h
      exact ⟨w, by rw [List.getElem?_set_ne z]; exact h1, h2⟩
theorem wipe_set {i : Nat} {v : Option V} : ∀ {own : List Nat} {σ : L2.St}, i ∈ own → L2.wipe (σ.set i v) own = L2.wipe σ own
  | j :: own, σ, h => by
    unfold L2.wipe
    have comm : ∀ {own : List Nat} {σ : L2.St}, L2.wipe (σ.set i v) own = (L2.wipe σ own).set i v ∨ L2.wipe (σ.set i v) own = L2.wipe σ own := by
      intro own
      induction own with
      | nil => intro σ; exact .inl rfl
      | cons k own ih =>
        intro σ
        unfold L2.wipe
        rcases @ih σ with e | e
        · rw [e]
          by_cases z : i = k
          · subst z
            right
            rw [List.set_set]
          · left
            rw [List.set_comm _ _ z]
        · rw [e]
          exact .inr rfl
    rcases comm (own := own) (σ := σ) with e | e
    · rw [e]
      by_cases z : i = j
      · subst z
        rw [List.set_set]
      · have hm : i ∈ own := by
          cases h with
          | head => exact absurd rfl z
          | tail _ h => exact h
        rw [wipe_set hm] at e
        rw [← e]
    · rw [e]
theorem names_ok {Q : L2.St → Hp → Prop} : ∀ {is : List Nat} {ds : List D} {vs : List V} {e e2 : OI.Env} {σ : L2.St}, Rl c S e s σ → RepDs c S ds vs → setNames is ds e = some e2 → (∀ σ', Rl c S e2 s σ' → (∀ own : List Nat, (∀ i ∈ is, i ∈ own) → L2.wipe σ' own = L2.wipe σ own) → Q σ' S.H) → vs.length = is.length ∧ gNames is vs σ S.H Q
  | [], ds, vs, e, e2, σ, R, r, h, q => by
    cases ds with
    | nil =>
      cases h
      have r : vs = [] := r
      subst r
      exact ⟨rfl, rfl, q σ R fun _ _ => rfl⟩
    | cons d ds => cases h
  | i :: is, ds, vs, e, e2, σ, R, r, h, q => by
    cases ds with
    | nil => cases h
    | cons d ds =>
      obtain ⟨v, w, rfl, r1, r2⟩ := r
      unfold setNames at h
      split at h
      · rename_i hi
        obtain ⟨hl, hq⟩ := names_ok (set_val R hi r1) r2 h fun σ' R' hw => q σ' R' fun own ho => by
          rw [hw own fun j hj => ho j (List.mem_cons_of_mem _ hj), wipe_set (ho i (List.mem_cons_self ..))]
        exact ⟨by rw [List.length_cons, hl, List.length_cons], v, w, rfl, hq⟩
      · cases h
theorem tg_ok {K : PySem.W.Frag} (hK : K = c.K) {t : Tg} {m : M} {v : V} {e2 : OI.Env} {Q : L2.St → Hp → Prop} (R : Rl c S e s σ) (r : RepM c S .tmp m v) (h : store t m e = some e2) (q : ∀ S' σ', S'.H = S.H → Rl c S' e2 s σ' → StS t.slots S S' s s → (∀ own : List Nat, (∀ i ∈ t.slots, i ∈ own) → L2.wipe σ' own = L2.wipe σ own) → Q σ' S'.H) : gT K t v σ S.H Q := by
  cases t with
  | one i =>
    unfold store at h
    dsimp only at h
    split at h
    · rename_i hi
      cases h
      obtain ⟨S', hH, R', st⟩ := set_slot R hi r
      have := q S' _ hH R' st fun own ho => wipe_set (ho i (List.mem_cons_self ..))
      rw [hH] at this
      exact this
    · cases h
  | many is =>
    unfold store at h
    dsimp only at h
    split at h
    · rename_i ds
      obtain ⟨p, vs, rfl, hf, rd⟩ := r
      obtain ⟨hl, hq⟩ := names_ok R rd h fun σ' R' hw => q S σ' rfl R' (StS.refl _ _ _) hw
      rw [hK]
      exact ⟨p, vs, rfl, hf.sq, hl, hq⟩
    · cases h
end
end OI

/-! OIn: the lifts of simple statements. -/
namespace OI
open PySem PySem.Spec PyProof.Rows L2
section
variable {c : Cn} {W : WX} {ws : List Nat} {σ : L2.St} {S S1 : Wd} {s s1 : Store} {e : OI.Env} {D : Ends}
theorem vl_cases {x : M × Pl} {v : V} (Rr : Rl c S e s σ) (rp : rM c σ S s x v) : vl x.1 x.2 e s = .bad ∨ ∃ S1 m e1, vl x.1 x.2 e s = .ok m e1 s ∧ Rl c S1 e1 s σ ∧ StE S S1 s s ∧ S1.H = S.H ∧ RepM c S1 .tmp m v := by
  obtain ⟨m, pl⟩ := x
  obtain ⟨r1, r2⟩ := rp
  have other : ∀ (hm : m.isVal = false), vl m pl e s = .bad ∨ ∃ S1 m' e1, vl m pl e s = .ok m' e1 s ∧ Rl c S1 e1 s σ ∧ StE S S1 s s ∧ S1.H = S.H ∧ RepM c S1 .tmp m' v := fun hm => by
    cases pl with
    | slot i =>
      have e0 : vl m (.slot i) e s = .ok (.val m.frz) (e.set i (some (.val m.frz))) s := by
        cases m <;> first | rfl | cases hm
      have hlt : i < e.length := by
        rw [Rr.elen]
        exact (List.getElem?_eq_some_iff.mp r2).1
      obtain ⟨S1, R1, hH, hd, st⟩ := Rr.frzSlot hm r2 r1 hlt
      exact .inr ⟨S1, _, _, e0, R1, st, hH, hd⟩
    | tmp =>
      have e0 : vl m .tmp e s = .ok m e s := by
        cases m <;> first | rfl | cases hm
      exact .inr ⟨S, m, e, e0, Rr, StE.refl S s, rfl, r1⟩
    | fld n f =>
      have e0 : vl m (.fld n f) e s = .bad := by
        cases m <;> first | rfl | cases hm
      exact .inl e0
    | obj n => exact r2.elim
    | oth => exact r2.elim
  cases m with
  | val d => exact .inr ⟨S, .val d, e, rfl, Rr, StE.refl S s, rfl, r1⟩
  | ol xs => exact other rfl
  | od t kvs => exact other rfl
theorem valM_full {fa : OI.Env → Store → Res (M × Pl)} {k : M → OI.Env → Store → Res Flow} {rest : V → Hp → Prop} (Rr : Rl c S e s σ)
    (h : PostS c W ws S s ((valM fa e s).bind k) D) (hr : ∀ S1 e1 s1 m v, Rl c S1 e1 s1 σ → StE S S1 s s1 → RepM c S1 .tmp m v → PostS c W ws S s (k m e1 s1) D → rest v S1.H) : tE c W fa σ S.H rest := by
  unfold valM at h
  rw [Res.bind_bind] at h
  refine ⟨S, e, s, rfl, Rr, PostS.bindE Rr.toRlS h fun x e1 s1 S1 v q1 R1 st1 rp1 p1 => ?_⟩
  rw [q1] at h
  have h : PostS c W ws S s ((vl x.1 x.2 e1 s1).bind k) D := h
  rcases vl_cases R1 rp1 with hb | ⟨S2, m, e2, he, R2, st2, hH, rp2⟩
  · rw [hb] at h
    exact h.elim
  · rw [he] at h
    rw [← hH]
    exact hr S2 e2 s1 m v R2 (st1.trans Rr.dom st2) rp2 h
end

section
variable {X : Cx} {c : Cn} {W : WX} {ws : List Nat} {R : Runs} {n : Nat} {pos : Pos}
theorem s_asg {t : Tg} {ia : IE} {st : Stmt} (hK : X.K = c.K) (hw : ∀ i ∈ t.slots, i ∈ ws) (h : PS X st (tAsg (tE c W (ev R ia)) (gT X.K t))) : PS X st (tS c W ws (exec R n (.asg t ia))) :=
  h.weak fun D σ H q => by
    obtain ⟨S, e, s, rfl, Rr, p⟩ := q
    refine valM_full Rr p fun S1 e1 s1 m v R1 st1 rp p1 => ?_
    split at p1
    · rename_i e2 he
      unfold keep at he
      split at he
      · rename_i hk
        obtain ⟨hf, rfl⟩ := hk
        obtain ⟨R2, st2⟩ := restore Rr R1 st1
        show gT X.K t v σ (S.unmask S1).H D.nx
        exact tg_ok hK R2 (flat_rep hf rp) he fun S' σ' hH R' st' _ => p1 S' σ' R' (((st2.sts ws).trans Rr.dom (st'.mono hw)))
      · exact tg_ok hK R1 rp he fun S' σ' hH R' st' _ => p1 S' σ' R' (((st1.sts ws).trans Rr.dom (st'.mono hw)))
    · exact p1.elim
theorem ret_ok {ia : IE} {D : Ends} {σ : L2.St} {H : Hp} (q : tS c W ws (exec R n (.ret ia)) D σ H) : tE c W (ev R ia) σ H D.rt := by
  obtain ⟨S, e, s, rfl, Rr, p⟩ := q
  refine ⟨S, e, s, rfl, Rr, PostS.bindE Rr.toRlS p fun x e1 s1 S1 v q1 R1 st1 rp1 p1 => ?_⟩
  obtain ⟨m, pl⟩ := x
  obtain ⟨r1, r2⟩ := rp1
  unfold moved at p1
  dsimp only at p1 r1 r2
  have other : (∃ p, v = .ref p ∧ S1.ow p = some pl) → (∀ S2, Fr S1 S2 → S2.H = S1.H → (∀ p, S1.ow p = some pl → v = .ref p → S2.ow p = some .tmp) → RepM c S2 .tmp m v) → PostS c W ws S1 s1 (movedK m pl e1 s1) D → D.rt v S1.H := fun ⟨p, ev, ho⟩ hm hp => by
    cases pl with
    | slot i =>
      have fr : Fr S1 (S1.lab p (some .tmp)) := lab_fr (by rw [ho]; simp)
      have ne : ∀ {a : Addr} {x : Pl}, S1.ow a = some x → x ≠ .slot i → a ≠ p := fun h1 h2 z => by subst z; rw [ho] at h1; cases h1; exact h2 rfl
      have st : StC S1 (S1.lab p (some .tmp)) s1 s1 := ⟨fr, VerS.refl s1, fun n en _ _ a x hx hn => ⟨rfl, by rw [lab_ne (ne hx (fun z => by subst z; cases hn))]; exact hx⟩, fun a hx => ⟨rfl, by rw [lab_ne (ne hx (by simp))]; exact hx⟩⟩
      have R2 : RlS c (S1.lab p (some .tmp)) s1 := R1.toRlS.step fr (fun a x n hx hn => ⟨rfl, by rw [lab_ne (ne hx (fun z => by subst z; cases hn))]; exact hx⟩) rfl (lab_dom R1.dom (by rw [ho]; simp)) (lab_src R1.src (by intro x hx; cases hx; rfl)) R1.hl
      exact hp (S1.lab p (some .tmp)) v R2 st (hm _ fr rfl fun p' h1 h2 => by
        have : p' = p := by rw [ev] at h2; cases h2; rfl
        subst this
        exact lab_same)
    | tmp => exact hp S1 v R1.toRlS (StC.refl S1 s1) (hm _ (Fr.refl S1) rfl fun p' h1 _ => h1)
    | _ => exact hp.elim
  cases m with
  | val d => exact p1 S1 v R1.toRlS (StC.refl S1 s1) r1
  | ol xs =>
    obtain ⟨p, vs, ev, h1, h2, h3⟩ := r1
    exact other ⟨p, ev, h2⟩ (fun S2 f hH k => ⟨p, vs, ev, by rw [hH]; exact h1, k p h2 ev, h3.mono f⟩) p1
  | od t kvs =>
    obtain ⟨p, vs, ev, h1, h2, h3⟩ := r1
    exact other ⟨p, ev, h2⟩ (fun S2 f hH k => ⟨p, vs, ev, by rw [hH]; exact h1, k p h2 ev, h3.mono f⟩) p1
theorem s_ret {a : Expr} {ia : IE} (ha : PE X a (tE c W (ev R ia))) : PS X (.Return (some a) pos) (tS c W ws (exec R n (.ret ia))) := (ps_ret ha).weak fun D σ H q => ret_ok q
theorem s_ifs {t : Expr} {it : IE} {as bs : List Stmt} {ia ib : ISs} (ht : PT X t (tT c W (ev R it))) (ha : PSs X as (tS c W ws (execs R n ia))) (hb : PSs X bs (tS c W ws (execs R n ib))) : PS X (.If t as bs pos) (tS c W ws (exec R n (.ifs it ia ib))) :=
  (ps_if ht ha hb).weak fun D σ H q => by
    obtain ⟨S, e, s, rfl, Rr, p⟩ := q
    exact test_okS (k := fun k e1 s1 => if k then execs R n ia e1 s1 else execs R n ib e1 s1) Rr p fun S1 e1 s1 b R1 st1 p1 => by
      cases b with
      | true => exact ⟨S1, e1, s1, rfl, R1, p1⟩
      | false => exact ⟨S1, e1, s1, rfl, R1, p1⟩
/-- a suite as it is written: one that is empty is none of the text's -/
theorem s_expr {a : Expr} {ia : IE} (hs : ∀ l, swapsWith a none l X.env = pure false) (ha : PE X a (tE c W (ev R ia))) : PS X (.Expr a pos) (tS c W ws (exec R n (.expr ia))) :=
  (ps_expr ha (hs _)).weak fun D σ H q => by
    obtain ⟨S, e, s, rfl, Rr, p⟩ := q
    refine valM_full (k := fun _ e1 s1 => .ok .nx (if s1 = s then e else e1) s1) Rr p fun S1 e1 s1 m v R1 st1 rp p1 => ?_
    by_cases hs : s1 = s
    · subst hs
      rw [if_pos rfl] at p1
      obtain ⟨R2, st2⟩ := restore Rr R1 st1
      exact p1 (S.unmask S1) σ R2 (st2.sts ws)
    · rw [if_neg hs] at p1
      exact p1 S1 σ R1 (st1.sts ws)
theorem s_pass : PS X (.Pass pos) (tS c W ws (exec R n .pass)) :=
  ps_pass.weak fun D σ H q => by
    obtain ⟨S, e, s, rfl, Rr, p⟩ := q
    exact p S σ Rr (StS.refl ws S s)
theorem s_snil : PSs X [] (tS c W ws (execs R n .nil)) :=
  pss_nil.weak fun D σ H q => by
    obtain ⟨S, e, s, rfl, Rr, p⟩ := q
    exact p S σ Rr (StS.refl ws S s)
theorem s_scons {a : Stmt} {as : List Stmt} {ia : IS} {ias : ISs} (ha : PS X a (tS c W ws (exec R n ia))) (hr : PSs X as (tS c W ws (execs R n ias))) : PSs X (a :: as) (tS c W ws (execs R n (.cons ia ias))) :=
  (pss_cons ha hr).weak fun D σ H q => by
    obtain ⟨S, e, s, rfl, Rr, p⟩ := q
    exact ⟨S, e, s, rfl, Rr, PostS.bindS Rr.toRlS p fun e1 s1 S1 σ1 q1 R1 st1 p1 => ⟨S1, e1, s1, rfl, R1, p1⟩⟩
end
end OI

/-! OIo: containers changed in their place. -/
namespace OI
open PySem PySem.Spec PyProof.Rows L2

theorem ofString_inj {a b : String} (h : Str.ofString a = Str.ofString b) : a = b := by
  rw [Str.ofString_eq_toList, Str.ofString_eq_toList] at h
  have h1 : a.toList.map Char.toNat = b.toList.map Char.toNat := by
    have := congrArg (fun z : Str => z.cps.toList) h
    simpa using this
  have h2 : a.toList = b.toList := by
    have inj : Function.Injective Char.toNat := fun x y e => Char.toNat_inj.mp e
    exact (List.map_inj_right (fun x y e => inj e)).mp h1
  exact String.ext h2

section
variable {c : Cn} {S S' : Wd} {s s' : Store} {e : OI.Env} {σ : L2.St}
theorem RepF.get {n : Nat} {f : String} {m : M} : ∀ {fs : List (String × M)} {gs : List (Str × V)}, RepF c S n fs gs → fldGet fs f = some m → ∃ v, gs.lookup (Str.ofString f) = some v ∧ RepM c S (.fld n f) m v
  | [], _, _, h => by cases h
  | (g, m') :: r, _, ⟨v, q, e, h1, h2⟩, h => by
    subst e
    by_cases z : g = f
    · subst z
      have : fldGet ((g, m') :: r) g = some m' := by simp [fldGet]
      rw [this] at h
      cases h
      exact ⟨v, by simp [List.lookup], h1⟩
    · have e1 : fldGet ((g, m') :: r) f = fldGet r f := by simp [fldGet, z]
      rw [e1] at h
      obtain ⟨v', h3, h4⟩ := RepF.get h2 h
      refine ⟨v', ?_, h4⟩
      have hne : (Str.ofString f == Str.ofString g) = false := beq_eq_false_iff_ne.mpr fun w => z (ofString_inj w).symm
      rw [List.lookup_cons, hne]
      exact h3
/-- the places in slots -/
def Pl.sl : Pl → List Nat
  | .slot i => [i]
  | _ => []
/-- where the content of a place stands -/
def AtP (c : Cn) (S : Wd) (e : OI.Env) (s : Store) (σ : L2.St) (p : Pl) (m : M) (a : Addr) : Prop :=
  match p with
  | .slot i => e[i]? = some (some m) ∧ σ[i]? = some (some (.ref a))
  | .fld n f => ∃ C fs w b k dx gs, s[n]? = some ⟨.ins C fs, w⟩ ∧ fldGet fs f = some m ∧ S.am[n]? = some b ∧ S.H b = some (.ins k dx gs) ∧ gs.lookup (Str.ofString f) = some (.ref a)
  | .obj n => S.am[n]? = some a
  | _ => False
structure Here (c : Cn) (S : Wd) (e : OI.Env) (s : Store) (σ : L2.St) (p : Pl) (m : M) (a : Addr) : Prop where
  con : RepM c S p m (.ref a)
  ow : S.ow a = some p
  place : AtP c S e s σ p m a
theorem RepM.refs {pl : Pl} {m : M} {v : V} (hm : m.isVal = false) (r : RepM c S pl m v) : ∃ a, v = .ref a ∧ S.ow a = some pl := by
  cases m with
  | val d => cases hm
  | ol xs => obtain ⟨p, vs, e1, h1, h2, h3⟩ := r; exact ⟨p, e1, h2⟩
  | od t kvs => obtain ⟨p, vs, e1, h1, h2, h3⟩ := r; exact ⟨p, e1, h2⟩
theorem curr_ok {m1 m : M} {pl p : Pl} {v : V} {S1 S2 : Wd} {s1 s2 : Store} {e1 e2 : OI.Env} (R1 : Rl c S1 e1 s1 σ) (rp : RepM c S1 pl m1 v) (po : PlOk σ S1 pl v) (st : StE S1 S2 s1 s2) (R2 : Rl c S2 e2 s2 σ)
    {sl : List Nat} (hh : hold sl m1 pl = some p) (hs : same p.fsrc s1 s2 = true) (hc : curr p e2 s2 = some m) (hm : m.isVal = false) : ∃ a, v = .ref a ∧ Here c S2 e2 s2 σ p m a ∧ ∀ i ∈ p.sl, i ∈ sl := by
  have other : m1.isVal = false → holdK sl pl = some p → ∃ a, v = .ref a ∧ Here c S2 e2 s2 σ p m a ∧ ∀ i ∈ p.sl, i ∈ sl := fun hm1 hh => by
    obtain ⟨a, ev, ho⟩ := RepM.refs hm1 rp
    cases pl with
    | slot i =>
      unfold holdK at hh
      dsimp only at hh
      split at hh <;> cases hh
      rename_i hsl
      have po : σ[i]? = some (some v) := po
      unfold curr at hc
      dsimp only at hc
      split at hc
      · rename_i m2 he
        cases hc
        obtain ⟨v2, h1, h2⟩ := R2.slot i _ he
        rw [po] at h1
        cases h1
        obtain ⟨a2, ev2, ho2⟩ := h2.refs hm
        rw [ev2] at ev
        cases ev
        subst ev2
        exact ⟨a, rfl, ⟨h2, ho2, he, po⟩, fun j hj => by cases hj with | head => exact hsl | tail _ z => cases z⟩
      · cases hc
    | fld n f =>
      cases hh
      obtain ⟨b, C, dx, gs, hb, hB, hl⟩ := po
      have hs : s1[n]? = s2[n]? := of_decide_eq_true hs
      unfold curr at hc
      dsimp only at hc
      split at hc
      · rename_i C2 fs w he
        obtain ⟨b1, h1, h2, h3⟩ := R1.obj n _ (hs.trans he)
        rw [hb] at h1
        cases h1
        obtain ⟨b2, h4, h5, dx2, gs2, h6, h7, _⟩ := R2.obj n _ he
        rw [st.toFr.amAt hb] at h4
        cases h4
        have h8 := (st.ent n _ (hs.trans he) he b _ h2 rfl).1
        rw [h6, hB] at h8
        cases h8
        obtain ⟨v2, h9, h10⟩ := h7.get hc
        rw [hl] at h9
        cases h9
        obtain ⟨a2, ev2, ho2⟩ := h10.refs hm
        rw [ev2] at ev
        cases ev
        subst ev2
        exact ⟨a, rfl, ⟨h10, ho2, _, _, _, _, _, _, _, he, hc, st.toFr.amAt hb, h6, hl⟩, fun j hj => by cases hj⟩
      · cases hc
    | tmp => cases hh
    | obj n => cases hh
    | oth => cases hh
  cases m1 with
  | val d =>
    cases d with
    | loc n =>
      cases hh
      obtain ⟨a, ev, ha⟩ := rp
      have ha2 := st.toFr.amAt ha
      refine ⟨a, ev, ?_⟩
      unfold curr at hc
      dsimp only at hc
      split at hc
      · rename_i xs w he
        cases hc
        obtain ⟨h0, vs, h1, h2⟩ := Rl.locs R2.toRlS ha2 he
        exact ⟨⟨⟨a, vs, rfl, h1, h0, h2⟩, h0, ha2⟩, fun j hj => by cases hj⟩
      · rename_i t kvs w he
        cases hc
        obtain ⟨h0, vs, h1, h2⟩ := Rl.locs R2.toRlS ha2 he
        exact ⟨⟨⟨a, vs, rfl, h1, h0, h2⟩, h0, ha2⟩, fun j hj => by cases hj⟩
      · cases hc
    | _ => cases hh
  | ol xs => exact other rfl hh
  | od t kvs => exact other rfl hh
/-- another content at the place -/
theorem RepF.put {n : Nat} {f : String} {m : M} {a : Addr} (fr : Fr S S') (k : ∀ b g, S.ow b = some (.fld n g) → g ≠ f → S'.H b = S.H b ∧ S'.ow b = some (.fld n g)) (hm : RepM c S' (.fld n f) m (.ref a)) : ∀ {fs : List (String × M)} {gs : List (Str × V)}, (fs.map (·.1)).Nodup → RepF c S n fs gs → gs.lookup (Str.ofString f) = some (.ref a) →
    RepF c S' n (fldPut fs f m) gs
  | [], gs, _, h, hl => by
    rw [show gs = [] from h] at hl
    cases hl
  | (g, m') :: r, gs, nd, ⟨w, q, e, h1, h2⟩, hl => by
    subst e
    rw [List.map_cons, List.nodup_cons] at nd
    unfold fldPut
    by_cases z : g = f
    · subst z
      rw [if_pos (by simp)]
      rw [List.lookup_cons, beq_self_eq_true] at hl
      cases hl
      have keepAll : ∀ {fs : List (String × M)} {gs : List (Str × V)}, g ∉ fs.map (·.1) → RepF c S n fs gs → RepF c S' n fs gs := by
        intro fs
        induction fs with
        | nil => exact fun _ h => h
        | cons p r ih =>
          obtain ⟨g', m2⟩ := p
          intro gs hg ⟨w', q', e', h3, h4⟩
          rw [List.map_cons, List.mem_cons, not_or] at hg
          exact ⟨w', q', e', h3.step fr (fun b hb => k b g' hb (fun z => hg.1 z.symm)), ih hg.2 h4⟩
      exact ⟨_, _, rfl, hm, keepAll nd.1 h2⟩
    · rw [if_neg (by simpa using z)]
      have hne : (Str.ofString f == Str.ofString g) = false := beq_eq_false_iff_ne.mpr fun w => z (ofString_inj w).symm
      rw [List.lookup_cons, hne] at hl
      exact ⟨w, q, rfl, h1.step fr (fun b hb => k b g hb z), RepF.put fr k hm nd.2 h2 hl⟩
theorem fldPut_names {f : String} {m : M} : ∀ {fs : List (String × M)} {m' : M}, fldGet fs f = some m' → (fldPut fs f m).map (·.1) = fs.map (·.1)
  | [], _, h => by cases h
  | (g, w) :: r, m', h => by
    unfold fldPut
    by_cases z : g = f
    · subst z
      rw [if_pos (by simp)]
      rfl
    · rw [if_neg (by simpa using z)]
      have e1 : fldGet ((g, w) :: r) f = fldGet r f := by simp [fldGet, z]
      rw [e1] at h
      rw [List.map_cons, List.map_cons, fldPut_names h]
def Wd.upd (S : Wd) (a : Addr) (o : HO) : Wd := { S with H := L2.upd S.H a o }
/-- the content at a place is exchanged -/
theorem put_ok {p : Pl} {m m' : M} {a : Addr} {o : HO} {e' : OI.Env} {s' : Store} (R : Rl c S e s σ) (h : Here c S e s σ p m a) (hpl : Pln a (S.H a)) (ho : HLo o) (hcon : ∀ S' pl, S'.H a = some o → S'.ow a = some pl → Fr S S' → RepM c S' pl m' (.ref a)) (hp : put p m' e s = some (e', s')) :
    Rl c (S.upd a o) e' s' σ ∧ StS p.sl S (S.upd a o) s s' := by
  have hH : ∀ {b : Addr}, b ≠ a → (S.upd a o).H b = S.H b := fun hb => upd_ne hb
  have hHa : (S.upd a o).H a = some o := upd_same
  have ne : ∀ {b : Addr} {q : Pl}, S.ow b = some q → q ≠ p → b ≠ a := fun h1 h2 z => by subst z; rw [h.ow] at h1; cases h1; exact h2 rfl
  have fr : Fr S (S.upd a o) := ⟨fun b u h1 h2 _ => ⟨by rw [hH (fun z => by subst z; rw [h.ow] at h2; cases h2)]; exact h1, h2⟩, [], by simp [Wd.upd]⟩
  have con : RepM c (S.upd a o) p m' (.ref a) := hcon _ _ hHa h.ow fr
  have dom : ∀ b, (S.upd a o).ow b ≠ none → Dm b ((S.upd a o).H b) := fun b hb => by
    by_cases z : b = a
    · subst z; exact dm_of hHa ho
    · rw [hH z]; exact R.dom b hb
  have hl : HL c (S.upd a o).H := R.hl.put hpl ho
  have place := h.place
  -- where the store's entries stay as they are
  have stay : (∀ n, p.src ≠ some n) → RlS c (S.upd a o) s := fun hn => R.toRlS.step fr (fun b q n h1 h2 => ⟨hH (ne h1 fun z => by subst z; exact hn n h2), h1⟩) rfl dom R.src hl
  have slots : ∀ {e2 : OI.Env}, (∀ i m2, e2[i]? = some (some m2) → (p ≠ .slot i ∧ e[i]? = some (some m2)) ∨ (p = .slot i ∧ m2 = m' ∧ σ[i]? = some (some (.ref a)))) → ∀ i m2, e2[i]? = some (some m2) → ∃ v, σ[i]? = some (some v) ∧ RepM c (S.upd a o) (.slot i) m2 v := fun hk i m2 h2 => by
    rcases hk i m2 h2 with ⟨k1, k2⟩ | ⟨k1, k2, k3⟩
    · obtain ⟨v, x1, x2⟩ := R.slot i m2 k2
      exact ⟨v, x1, x2.step fr fun b hb => ⟨hH (ne hb fun z => k1 z.symm), hb⟩⟩
    · subst k2
      rw [k1] at con
      exact ⟨_, k3, con⟩
  have sls : ∀ (ws : List Nat), (∀ i, p = .slot i → i ∈ ws) → ∀ b i, i ∉ ws → S.ow b = some (.slot i) → (S.upd a o).H b = S.H b ∧ ((S.upd a o).ow b = some (.slot i) ∨ ((S.upd a o).ow b = none ∧ NoTb ((S.upd a o).H b))) := fun ws hw b i hi hb => ⟨hH (ne hb fun z => hi (hw i z.symm)), .inl hb⟩
  cases p with
  | slot i =>
    cases hp
    obtain ⟨p1, p2⟩ := place
    have hlt := (List.getElem?_eq_some_iff.mp p1).1
    refine ⟨⟨stay (fun n z => nomatch z), by rw [List.length_set]; exact R.elen, slots fun j m2 h2 => ?_⟩, ⟨⟨fr, VerS.refl s, fun n en _ _ b q hb hq => ⟨hH (ne hb fun z => by subst z; cases hq), hb⟩, fun b hb => ⟨hH (ne hb fun z => nomatch z), hb⟩⟩, sls [i] fun j hj => by cases hj; simp⟩⟩
    by_cases z : i = j
    · subst z
      rw [List.getElem?_set_self hlt] at h2
      cases h2
      exact .inr ⟨rfl, rfl, p2⟩
    · rw [List.getElem?_set_ne z] at h2
      exact .inl ⟨fun w => z (by cases w; rfl), h2⟩
  | tmp => exact place.elim
  | oth => exact place.elim
  | fld n f =>
    obtain ⟨C, fs, w, b0, k0, dx0, gs0, hs, hg, q1, q2, q3⟩ := place
    unfold OI.put at hp
    dsimp only at hp
    rw [hs] at hp
    cases hp
    have hlt := (List.getElem?_eq_some_iff.mp hs).1
    refine ⟨⟨⟨by rw [List.length_set]; exact R.len, fun k en hk => ?_, dom, fun b q k h1 h2 => by rw [List.length_set]; exact R.src b q k h1 h2, hl⟩, R.elen, slots fun j m2 h2 => .inl ⟨fun z => (nomatch z), h2⟩⟩, ⟨⟨fr, fun k en hk => ?_, fun k en h1 h2 b q hb hq => ?_, fun b hb => ⟨hH (ne hb fun z => nomatch z), hb⟩⟩, sls [] fun j hj => nomatch hj⟩⟩
    · by_cases z : n = k
      · subst z
        rw [List.getElem?_set_self hlt] at hk
        cases hk
        obtain ⟨b, h1, h2, dx, gs, h3, h4, h5⟩ := R.obj n _ hs
        have hba : b ≠ a := ne h2 fun z => nomatch z
        obtain ⟨v2, x1, x2⟩ := h4.get hg
        have ev : v2 = .ref a := by
          rw [h1] at q1
          cases q1
          rw [h3] at q2
          cases q2
          rw [x1] at q3
          exact Option.some.inj q3
        subst ev
        refine ⟨b, h1, h2, dx, gs, (hH hba).trans h3, RepF.put fr (fun b' g hb' hg' => ⟨hH (ne hb' fun z => hg' (by cases z; rfl)), hb'⟩) con h5 h4 x1, ?_⟩
        rw [fldPut_names hg]
        exact h5
      · rw [List.getElem?_set_ne z] at hk
        obtain ⟨b, h1, h2, h3⟩ := R.obj k en hk
        exact ⟨b, h1, h2, h3.step fr (hH (ne h2 fun w => nomatch w)) fun b' g hb' => ⟨hH (ne hb' fun w => z (by cases w; rfl)), hb'⟩⟩
    · by_cases z : n = k
      · subst z
        rw [hs] at hk
        cases hk
        exact ⟨_, List.getElem?_set_self hlt, Nat.le_succ _, fun e => absurd e (Nat.ne_of_lt (Nat.lt_succ_self w))⟩
      · exact ⟨en, by rw [List.getElem?_set_ne z]; exact hk, Nat.le_refl _, fun _ => rfl⟩
    · by_cases z : n = k
      · subst z
        rw [hs] at h1
        cases h1
        rw [List.getElem?_set_self hlt] at h2
        have h2 := congrArg Ent.v (Option.some.inj h2)
        exact absurd h2 (Nat.ne_of_gt (Nat.lt_succ_self w))
      · exact ⟨hH (ne hb fun w => z (by subst w; cases hq; rfl)), hb⟩
  | obj n =>
    have hc : ∃ o2 w w', s[n]? = some ⟨o2, w⟩ ∧ s' = s.set n ⟨w', w + 1⟩ ∧ e' = e ∧ ∀ b, (S.upd a o).ow b = some (.obj n) → RepM c (S.upd a o) (.obj n) m' (.ref b) → RepO c (S.upd a o) n b w' := by
      unfold OI.put at hp
      dsimp only at hp
      split at hp
      · rename_i xs w ys he
        cases hp
        exact ⟨_, w, _, he, rfl, rfl, fun b _ ⟨p, vs, e1, h1, _, h3⟩ => by cases e1; exact ⟨vs, h1, h3⟩⟩
      · rename_i t' ks w t2 ys he
        cases hp
        exact ⟨_, w, _, he, rfl, rfl, fun b _ ⟨p, vs, e1, h1, _, h3⟩ => by cases e1; exact ⟨vs, h1, h3⟩⟩
      · cases hp
    obtain ⟨o2, w, w', hs, rfl, rfl, hrep⟩ := hc
    have hlt := (List.getElem?_eq_some_iff.mp hs).1
    refine ⟨⟨⟨by rw [List.length_set]; exact R.len, fun k en hk => ?_, dom, fun b q k h1 h2 => by rw [List.length_set]; exact R.src b q k h1 h2, hl⟩, R.elen, slots fun j m2 h2 => .inl ⟨fun z => (nomatch z), h2⟩⟩, ⟨⟨fr, fun k en hk => ?_, fun k en h1 h2 b q hb hq => ?_, fun b hb => ⟨hH (ne hb fun z => nomatch z), hb⟩⟩, sls [] fun j hj => nomatch hj⟩⟩
    · by_cases z : n = k
      · subst z
        rw [List.getElem?_set_self hlt] at hk
        cases hk
        exact ⟨a, place, h.ow, hrep a h.ow con⟩
      · rw [List.getElem?_set_ne z] at hk
        obtain ⟨b, h1, h2, h3⟩ := R.obj k en hk
        exact ⟨b, h1, h2, h3.step fr (hH (ne h2 fun w => z (by cases w; rfl))) fun b' g hb' => ⟨hH (ne hb' fun w => nomatch w), hb'⟩⟩
    · by_cases z : n = k
      · subst z
        rw [hs] at hk
        cases hk
        exact ⟨_, List.getElem?_set_self hlt, Nat.le_succ _, fun e => absurd e (Nat.ne_of_lt (Nat.lt_succ_self w))⟩
      · exact ⟨en, by rw [List.getElem?_set_ne z]; exact hk, Nat.le_refl _, fun _ => rfl⟩
    · by_cases z : n = k
      · subst z
        rw [hs] at h1
        cases h1
        rw [List.getElem?_set_self hlt] at h2
        have h2 := congrArg Ent.v (Option.some.inj h2)
        exact absurd h2 (Nat.ne_of_gt (Nat.lt_succ_self w))
      · exact ⟨hH (ne hb fun w => z (by subst w; cases hq; rfl)), hb⟩
end
end OI

/-! OIp: append, extend, clear, reverse, o[i] = v. -/
namespace OI
open PySem PySem.Spec PyProof.Rows L2
section
variable {c : Cn} {W : WX} {ws : List Nat} {σ : L2.St} {S1 S1' S2 : Wd} {s1 s2 : Store} {e1 e2 : OI.Env} {D : Ends} {x : M × Pl} {v : V}
/-- how a thing waits -/
def Pended (S1 S1' : Wd) (x : M × Pl) (v : V) : Prop := (S1' = S1 ∧ (x.2 ≠ .tmp ∨ x.1.isVal = true)) ∨ (x.2 = .tmp ∧ x.1.isVal = false ∧ ∃ a, v = .ref a ∧ S1.ow a = some .tmp ∧ S1' = S1.lab a (some .oth))
theorem pend2 (R1 : Rl c S1 e1 s1 σ) (rp : rM c σ S1 s1 x v) : ∃ S1', Pended S1 S1' x v ∧ Rl c S1' e1 s1 σ ∧ S1'.H = S1.H ∧ StE S1 S1' s1 s1 := by
  obtain ⟨m, pl⟩ := x
  by_cases hm : m.isVal = true
  · exact ⟨S1, .inl ⟨rfl, .inr hm⟩, R1, rfl, StE.refl _ _⟩
  · have hm : m.isVal = false := by simpa using hm
    by_cases hp : pl = .tmp
    · subst hp
      obtain ⟨a, ev, ho⟩ := RepM.refs hm rp.1
      exact ⟨S1.lab a (some .oth), .inr ⟨rfl, hm, a, ev, ho, rfl⟩, lab_tmp R1 ho, rfl, lab_ste ho⟩
    · exact ⟨S1, .inl ⟨rfl, .inl hp⟩, R1, rfl, StE.refl _ _⟩
/-- a place's content is exchanged: what the machine's rule is to do -/
theorem at_ok {sl : List Nat} {f : M → Option M} (R1 : Rl c S1 e1 s1 σ) (rp : rM c σ S1 s1 x v) (hk : Pended S1 S1' x v) (st : StE S1' S2 s1 s2) (R2 : Rl c S2 e2 s2 σ) (p : PostS c W ws S1 s1 (atK sl x s1 f e2 s2) D) (hf : ∀ d, f (.val d) = none) (hsl : ∀ i ∈ sl, i ∈ ws) :
    ∃ a m m', v = .ref a ∧ S2.ow a ≠ none ∧ RepV c S2 m v ∧ f m = some m' ∧ ∀ o, HLo o → (∀ S' pl, S'.H a = some o → S'.ow a = some pl → Fr S2 S' → RepM c S' pl m' (.ref a)) → D.nx σ (L2.upd S2.H a o) := by
  unfold atK at p
  split at p
  · rename_i q hq
    have hS : S1' = S1 := by
      rcases hk with ⟨h, _⟩ | ⟨h1, h2, _⟩
      · exact h
      · exfalso
        obtain ⟨m, pl⟩ := x
        dsimp only at h1 h2 hq
        subst h1
        cases m with
        | val d => cases h2
        | ol xs => exact absurd hq (by simp [hold, holdK])
        | od t kvs => exact absurd hq (by simp [hold, holdK])
    subst hS
    split at p
    · rename_i hs
      split at p
      · rename_i m hc
        unfold pushPl at p
        split at p
        · rename_i m' hm
          have hv : m.isVal = false := by
            cases m with
            | val d => rw [hf d] at hm; cases hm
            | _ => rfl
          split at p
          · rename_i e3 s3 hp
            obtain ⟨a, ev, h, hi⟩ := curr_ok R1 rp.1 rp.2 st R2 hq hs hc hv
            subst ev
            refine ⟨a, m, m', rfl, by rw [h.ow]; simp, h.con.view, hm, fun o ho hcon => ?_⟩
            obtain ⟨R3, st3⟩ := put_ok R2 h (pln_con hv h.con.view) ho hcon hp
            exact p _ σ R3 ((st.sts ws).trans R1.dom (st3.mono fun i hj => hsl i (hi i hj)))
          · exact p.elim
        · exact p.elim
      · exact p.elim
    · exact p.elim
  · split at p
    · rename_i hq hh
      obtain ⟨h1, h2, h3⟩ := hh
      rcases hk with ⟨_, h | h⟩ | ⟨_, _, a, ev, ho, hS⟩
      · exact absurd h1 h
      · rw [h2] at h; cases h
      · subst ev hS
        obtain ⟨m', hm⟩ := Option.isSome_iff_exists.mp h3
        have ho1 : (S1.lab a (some .oth)).ow a = some .oth := lab_same
        obtain ⟨hH2, ho2⟩ := st.oth a ho1
        have r1 : RepM c (S1.lab a (some .oth)) .oth x.1 (.ref a) := by
          have h := rp.1
          rw [h1] at h
          obtain ⟨m0, pl0⟩ := x
          dsimp only at h h2 ⊢
          cases m0 with
          | val d => cases h2
          | ol xs =>
            obtain ⟨p, vs, e1, h1, h2, h3⟩ := h
            cases e1
            exact ⟨a, vs, rfl, h1, lab_same, h3.mono (lab_fr (by rw [h2]; simp))⟩
          | od t kvs =>
            obtain ⟨p, vs, e1, h1, h2, h3⟩ := h
            cases e1
            exact ⟨a, vs, rfl, h1, lab_same, h3.mono (lab_fr (by rw [h2]; simp))⟩
        have r2 : RepM c S2 .oth x.1 (.ref a) := r1.step st.toFr fun p hp => st.oth p hp
        refine ⟨a, x.1, m', rfl, by rw [ho2]; simp, r2.view, hm, fun o ho' hcon => ?_⟩
        have ne1 : ∀ {b : Addr} {q : Pl}, S1.ow b = some q → q ≠ .tmp → b ≠ a := fun h1 h2 z => by subst z; rw [ho] at h1; cases h1; exact h2 rfl
        have ne2 : ∀ {b : Addr} {q : Pl}, S2.ow b = some q → q ≠ .oth → b ≠ a := fun h1 h2 z => by subst z; rw [ho2] at h1; cases h1; exact h2 rfl
        have H3 : ∀ {b : Addr}, b ≠ a → ((S2.lab a (some .tmp)).upd a o).H b = S2.H b := fun hb => upd_ne hb
        have O3 : ∀ {b : Addr}, b ≠ a → ((S2.lab a (some .tmp)).upd a o).ow b = S2.ow b := fun hb => lab_ne hb
        have fr23 : Fr S2 ((S2.lab a (some .tmp)).upd a o) := ⟨fun b u h1 h2 _ => by
          have hb : b ≠ a := fun z => by subst z; rw [ho2] at h2; cases h2
          exact ⟨by rw [H3 hb]; exact h1, by rw [O3 hb]; exact h2⟩, [], by simp [Wd.upd, Wd.lab]⟩
        have R3 : Rl c ((S2.lab a (some .tmp)).upd a o) e2 s2 σ := R2.step fr23 (fun b q n h1 h2 => by
            have hb := ne2 h1 (fun z => by subst z; cases h2)
            exact ⟨H3 hb, by rw [O3 hb]; exact h1⟩) (fun b i h1 => by
            have hb := ne2 h1 (fun z => nomatch z)
            exact ⟨H3 hb, by rw [O3 hb]; exact h1⟩) rfl (fun b hb => by
            by_cases z : b = a
            · subst z
              exact dm_of (show L2.upd S2.H b o b = some o from upd_same) ho'
            · rw [O3 z] at hb
              rw [H3 z]
              exact R2.dom b hb) (fun b q n h1 h2 => by
            by_cases z : b = a
            · subst z
              have : ((S2.lab b (some .tmp)).upd b o).ow b = some .tmp := lab_same
              rw [this] at h1
              cases h1
              cases h2
            · rw [O3 z] at h1
              exact R2.src b q n h1 h2) (R2.hl.put (pln_con h2 r2.view) ho')
        have st3 : StS ws S1 ((S2.lab a (some .tmp)).upd a o) s1 s2 := by
          have f : ∀ {b : Addr}, b ≠ a → (S1.lab a (some .oth)).ow b = S1.ow b := fun hb => lab_ne hb
          refine ⟨⟨⟨fun b u h1 h2 h3 => ?_, st.am⟩, st.ver, fun n en h1 h2 b q hb hq => ?_, fun b hb => ?_⟩, fun b i _ hb => ?_⟩
          · have hb : b ≠ a := fun z => by subst z; rw [ho] at h2; cases h2
            obtain ⟨x1, x2⟩ := st.keep b u h1 (by rw [f hb]; exact h2) h3
            exact ⟨by rw [H3 hb]; exact x1, by rw [O3 hb]; exact x2⟩
          · have hne := ne1 hb (fun z => by subst z; cases hq)
            obtain ⟨x1, x2⟩ := st.ent n en h1 h2 b q (by rw [f hne]; exact hb) hq
            exact ⟨by rw [H3 hne]; exact x1, by rw [O3 hne]; exact x2⟩
          · have hne := ne1 hb (fun z => nomatch z)
            obtain ⟨x1, x2⟩ := st.oth b (by rw [f hne]; exact hb)
            exact ⟨by rw [H3 hne]; exact x1, by rw [O3 hne]; exact x2⟩
          · have hne := ne1 hb (fun z => nomatch z)
            obtain ⟨x1, x2⟩ := st.slot b i (by rw [f hne]; exact hb)
            exact ⟨by rw [H3 hne]; exact x1, by rw [O3 hne, H3 hne]; exact x2⟩
        exact p _ σ R3 st3
    · exact p.elim
end

section
variable {c : Cn} {W : WX} {ws : List Nat} {σ : L2.St} {S1 S1' : Wd} {s : Store} {e : OI.Env} {D : Ends}
theorem valD_from {fa : OI.Env → Store → Res (M × Pl)} {k : OI.D → OI.Env → Store → Res Flow} {rest : V → Hp → Prop} (Rr : Rl c S1' e s σ) (R0 : RlS c S1 s) (st0 : StE S1 S1' s s)
    (h : PostS c W ws S1 s ((valD fa e s).bind k) D) (hr : ∀ S2 e2 s2 d v, Rl c S2 e2 s2 σ → StE S1' S2 s s2 → RepD c S2 d v → PostS c W ws S1 s (k d e2 s2) D → rest v S2.H) : tE c W fa σ S1'.H rest := by
  unfold valD at h
  rw [Res.bind_bind] at h
  refine ⟨S1', e, s, rfl, Rr, PostS.bindE Rr.toRlS (PostS.shift R0 (st0.sts ws) h) fun x e1 s1 S2 v q1 R1 st1 rp1 p1 => ?_⟩
  rw [q1] at h
  have h : PostS c W ws S1 s (((vl x.1 x.2 e1 s1).bind fun m e2 s2 => .ok m.frz e2 s2).bind k) D := h
  rcases vl_cases R1 rp1 with hb | ⟨S3, m, e2, he, R2, st2, hH, rp2⟩
  · rw [hb] at h
    exact h.elim
  · rw [he] at h
    obtain ⟨S4, R4, hH4, hd, st4⟩ := frz_ste R2 rp2
    rw [← hH, ← hH4]
    exact hr S4 e2 s1 m.frz v R4 ((st1.trans Rr.dom st2).trans Rr.dom st4) hd h
end
section
variable {X : Cx} {c : Cn} {W : WX} {ws : List Nat} {R : Runs} {n : Nat} {pos apos cpos : Pos} {o a b : Expr} {io ia ib : IE}
theorem few0 {pos : Pos} : ((backTo pos (starEach [] X.env)).all (fun x => !x.1) && (backToKw pos (keywordEach [] X.env)).all (fun x => x.1.isSome)) = true := rfl
theorem few1 {pos : Pos} (hp : plainE a = true) : ((backTo pos (starEach [a] X.env)).all (fun x => !x.1) && (backToKw pos (keywordEach [] X.env)).all (fun x => x.1.isSome)
      && decide (([a] : List Expr).length + ([] : List Keyword).length + (if ([] : List Keyword).isEmpty then 0 else 1) < 30)) = true := by rw [star1 hp]; rfl
theorem few2 {pos : Pos} (hp : plainE a = true) (hp2 : plainE b = true) : ((backTo pos (starEach [a, b] X.env)).all (fun x => !x.1) && (backToKw pos (keywordEach [] X.env)).all (fun x => x.1.isSome)
      && decide (([a, b] : List Expr).length + ([] : List Keyword).length + (if ([] : List Keyword).isEmpty then 0 else 1) < 30)) = true := by rw [star2 hp hp2]; rfl
theorem mut1_d {f : String} (d : OI.D) : ∀ d', mutate1 f (.val d') d = none := fun d' => by
  unfold mutate1
  split <;> first | rfl | (rename_i h; cases h)
theorem mut0_d {f : String} : ∀ d', mutate0 f (.val d') = none := fun d' => by
  unfold mutate0
  split <;> first | rfl | (rename_i h; cases h)
theorem lim_lt {n : Nat} (h : n < LIM) : n < sizeLine := Nat.lt_of_lt_of_le h (lim_le (Nat.le_refl _))
/-- o.append(a), o.extend(a) -/
theorem s_app {f : String} {fx : Str} {id : String} {r : V → List V → Hp → VK → Prop} (hK : X.K = c.K) (slot : Slot "list" fx id) (hty : typeOf (.builtin id) = pure (.type "method_descriptor")) (hm : MtM X id r) (hf : f ≠ "update") (hw : ∀ i ∈ io.slot?, i ∈ ws)
    (hr : ∀ (S : Wd) (s : Store) (m m' : M) (d : OI.D) (p : Addr) (y : V) (Q : Hp → Prop), RlS c S s → RepV c S m (.ref p) → RepD c S d y → mutate1 f m d = some m' → (∀ ob, HLo ob → (∀ S' pl, S'.H p = some ob → S'.ow p = some pl → Fr S S' → RepM c S' pl m' (.ref p)) → Q (L2.upd S.H p ob)) → r (.ref p) [y] S.H fun _ H => Q H)
    (ho : PE X o (tE c W (ev R io))) (ha : PE X a (tE c W (ev R ia))) (hpo : plainE o = true) (hpa : plainE a = true) (hline : (apos.endLine == cpos.line) = true) : PS X (.Expr (.Call (.Attribute o fx apos) [a] [] cpos) pos) (tS c W ws (exec R n (.mut1 f io ia))) := by
  refine (ps_expr (pe_bm PySem.F.plainAttrs_list slot hty hm ho (pa1 hpa ha) (plain_base hpo _ _ _) (few1 hpa) hline (plain_star hpa [] X.env) any0) rfl).weak fun D σ H q => ?_
  obtain ⟨S, e, s, rfl, Rr, p⟩ := q
  refine ⟨S, e, s, rfl, Rr, PostS.bindE Rr.toRlS p fun x e1 s1 S1 v q1 R1 st1 rp1 p1 => ?_⟩
  unfold mut1K at p1
  split at p1
  · rename_i hk
    unfold kindOk at hk
    rw [if_neg hf] at hk
    obtain ⟨xs, hx⟩ := Option.isSome_iff_exists.mp hk
    obtain ⟨pv, vs, rfl, hl, _⟩ := lst1_of hx (bw_view R1.toRlS rp1.1)
    refine ⟨.inl ⟨rfl, vs, .inl (.inl hl)⟩, ?_⟩
    obtain ⟨S1', pd, R1', hH, ste⟩ := pend2 R1 rp1
    rw [← hH]
    refine valD_from R1' R1.toRlS ste p1 fun S2 e2 s2 d y R2 st2 rd p2 => ?_
    obtain ⟨a2, m, m', ev, _, hrep, hm', hnx⟩ := at_ok R1 rp1 pd st2 R2 p2 (mut1_d d) hw
    cases ev
    exact hr S2 s2 m m' d pv y (fun H => D.nx σ H) R2.toRlS hrep rd hm' hnx
  · exact p1.elim
/-- o.clear(), o.reverse() -/
theorem s_app0 {f : String} {fx : Str} {id : String} {r : V → List V → Hp → VK → Prop} (hK : X.K = c.K) (slot : Slot "list" fx id) (hty : typeOf (.builtin id) = pure (.type "method_descriptor")) (hm : MtM X id r) (hw : ∀ i ∈ io.slot?, i ∈ ws)
    (hr : ∀ (S : Wd) (s : Store) (m m' : M) (p : Addr) (Q : Hp → Prop), RlS c S s → RepV c S m (.ref p) → mutate0 f m = some m' → (∀ ob, HLo ob → (∀ S' pl, S'.H p = some ob → S'.ow p = some pl → Fr S S' → RepM c S' pl m' (.ref p)) → Q (L2.upd S.H p ob)) → (∃ xs, m = .ol xs) ∧ r (.ref p) [] S.H fun _ H => Q H)
    (ho : PE X o (tE c W (ev R io))) (hpo : plainE o = true) (hline : (apos.endLine == cpos.line) = true) : PS X (.Expr (.Call (.Attribute o fx apos) [] [] cpos) pos) (tS c W ws (exec R n (.mut0 f io))) := by
  refine (ps_expr (pe_bm0 PySem.F.plainAttrs_list slot hty hm ho (plain_base hpo _ _ _) hline) rfl).weak fun D σ H q => ?_
  obtain ⟨S, e, s, rfl, Rr, p⟩ := q
  refine ⟨S, e, s, rfl, Rr, PostS.bindE Rr.toRlS p fun x e1 s1 S1 v q1 R1 st1 rp1 p1 => ?_⟩
  unfold mut0K at p1
  obtain ⟨S1', pd, R1', hH, ste⟩ := pend2 R1 rp1
  rw [← hH]
  obtain ⟨a2, m, m', ev, _, hrep, hm', hnx⟩ := at_ok R1 rp1 pd (StE.refl S1' s1) R1' p1 mut0_d hw
  cases ev
  obtain ⟨⟨xs, hx⟩, h2⟩ := hr S1' s1 m m' a2 (fun H => D.nx σ H) R1'.toRlS hrep hm' hnx
  subst hx
  obtain ⟨p3, vs, e3, h3, _⟩ := hrep
  cases e3
  exact ⟨.inl ⟨rfl, vs, .inl (.inl h3)⟩, h2⟩
/-! the rules -/
theorem len_lst {S : Wd} {s : Store} (Rr : RlS c S s) {p : Addr} {vs : List V} (h : S.H p = some (.lst vs)) : vs.length ≤ 16777216 := (Rr.hl.n p).1 vs h
theorem r_append (S : Wd) (s : Store) (m m' : M) (d : OI.D) (p : Addr) (y : V) (Q : Hp → Prop) (Rr : RlS c S s) (r : RepV c S m (.ref p)) (rd : RepD c S d y) (h : mutate1 "append" m d = some m') (q : ∀ ob, HLo ob → (∀ S' pl, S'.H p = some ob → S'.ow p = some pl → Fr S S' → RepM c S' pl m' (.ref p)) → Q (L2.upd S.H p ob)) : rAppend (.ref p) [y] S.H fun _ H => Q H := by
  cases m with
  | ol xs =>
    have h : (if xs.length < LIM then some (M.ol (xs ++ [d])) else none) = some m' := h
    split at h
    · rename_i hl
      cases h
      obtain ⟨p', vs, ev, h1, h2⟩ := r
      cases ev
      have hv := h2.length
      refine ⟨p, vs, y, rfl, rfl, h1, by rw [hv]; exact lim_lt hl, q _ (HLo.lst ?_) fun S' pl hH ho f => ⟨p, _, rfl, hH, ho, (h2.mono f).append ⟨y, [], rfl, rd.mono f, rfl⟩⟩⟩
      rw [List.length_append, List.length_singleton, hv]
      have : xs.length < 16777216 := hl
      omega
    · cases h
  | _ => cases h
theorem r_extend (S : Wd) (s : Store) (m m' : M) (d : OI.D) (p : Addr) (y : V) (Q : Hp → Prop) (Rr : RlS c S s) (r : RepV c S m (.ref p)) (rd : RepD c S d y) (h : mutate1 "extend" m d = some m') (q : ∀ ob, HLo ob → (∀ S' pl, S'.H p = some ob → S'.ow p = some pl → Fr S S' → RepM c S' pl m' (.ref p)) → Q (L2.upd S.H p ob)) : rExtend (.ref p) [y] S.H fun _ H => Q H := by
  cases m with
  | ol xs =>
    cases d with
    | lst ys =>
      have h : (if xs.length + ys.length ≤ LIM then some (M.ol (xs ++ ys)) else none) = some m' := h
      split at h
      · rename_i hl
        cases h
        obtain ⟨p', vs, ev, h1, h2⟩ := r
        cases ev
        obtain ⟨p2, ws, rfl, h3, _, h4⟩ := rd
        have hv := h2.length
        have hw := h4.length
        refine ⟨p, p2, vs, ws, rfl, rfl, h1, h3, by rw [hv, hw]; exact lim_le hl, q _ (HLo.lst ?_) fun S' pl hH ho f => ⟨p, _, rfl, hH, ho, (h2.mono f).append (h4.mono f)⟩⟩
        rw [List.length_append, hv, hw]
        exact hl
      · cases h
    | _ => cases h
  | _ => cases h
theorem r_clear (S : Wd) (s : Store) (m m' : M) (p : Addr) (Q : Hp → Prop) (Rr : RlS c S s) (r : RepV c S m (.ref p)) (h : mutate0 "clear" m = some m') (q : ∀ ob, HLo ob → (∀ S' pl, S'.H p = some ob → S'.ow p = some pl → Fr S S' → RepM c S' pl m' (.ref p)) → Q (L2.upd S.H p ob)) : (∃ xs, m = .ol xs) ∧ rClear (.ref p) [] S.H fun _ H => Q H := by
  cases m with
  | ol xs =>
    cases h
    obtain ⟨p', vs, ev, h1, h2⟩ := r
    cases ev
    exact ⟨⟨xs, rfl⟩, p, vs, rfl, rfl, h1, q _ (HLo.lst (Nat.zero_le _)) fun S' pl hH ho f => ⟨p, _, rfl, hH, ho, rfl⟩⟩
  | _ => cases h
theorem r_reverse (S : Wd) (s : Store) (m m' : M) (p : Addr) (Q : Hp → Prop) (Rr : RlS c S s) (r : RepV c S m (.ref p)) (h : mutate0 "reverse" m = some m') (q : ∀ ob, HLo ob → (∀ S' pl, S'.H p = some ob → S'.ow p = some pl → Fr S S' → RepM c S' pl m' (.ref p)) → Q (L2.upd S.H p ob)) : (∃ xs, m = .ol xs) ∧ rReverse (.ref p) [] S.H fun _ H => Q H := by
  cases m with
  | ol xs =>
    cases h
    obtain ⟨p', vs, ev, h1, h2⟩ := r
    cases ev
    exact ⟨⟨xs, rfl⟩, p, vs, rfl, rfl, h1, q _ (HLo.lst (by rw [List.length_reverse]; exact len_lst Rr h1)) fun S' pl hH ho f => ⟨p, _, rfl, hH, ho, (h2.mono f).reverse⟩⟩
  | _ => cases h
end
end OI

/-! OIq: o[i] = v; dicts put. -/
namespace OI
open PySem PySem.Spec PyProof.Rows L2
section
variable {c : Cn} {S : Wd}
theorem kany {k : D} (hk : k.flatKey = true) : ∀ {kvs : List (D × D)} {vs : List V}, RepKs c S false kvs vs → (kvs.any fun p => decide (p.1 = k)) = ((kpairs kvs vs).any fun p => decide (p.1 = keyOf k))
  | [], vs, h => by rw [show vs = [] from h]; rfl
  | (a, e) :: r, vs, ⟨ha, w, q, ev, h1, h2⟩ => by
    subst ev
    show (decide (a = k) || _) = (decide (keyOf a = keyOf k) || _)
    rw [kany hk h2]
    congr 1
    by_cases z : a = k
    · subst z; simp
    · rw [decide_eq_false z, decide_eq_false fun y => z (keyOf_inj ha hk y)]
theorem kmap {k d : D} {v : V} (hk : k.flatKey = true) (rd : RepD c S d v) : ∀ {kvs : List (D × D)} {vs : List V}, RepKs c S false kvs vs →
    ∃ vs', RepKs c S false (kvs.map fun p => if p.1 = k then (p.1, d) else p) vs' ∧ kpairs (kvs.map fun p => if p.1 = k then (p.1, d) else p) vs' = (kpairs kvs vs).map fun p => if p.1 = keyOf k then (p.1, v) else p
  | [], vs, h => by rw [show vs = [] from h]; exact ⟨[], rfl, rfl⟩
  | (a, e) :: r, vs, ⟨ha, w, q, ev, h1, h2⟩ => by
    subst ev
    obtain ⟨vs', i1, i2⟩ := kmap hk rd h2
    by_cases z : a = k
    · subst z
      refine ⟨v :: vs', ?_, ?_⟩
      · rw [List.map_cons, if_pos rfl]
        exact ⟨ha, v, vs', rfl, rd, i1⟩
      · rw [List.map_cons, if_pos rfl]
        show (keyOf a, v) :: kpairs _ vs' = List.map _ ((keyOf a, w) :: kpairs r q)
        rw [i2, List.map_cons, if_pos rfl]
    · have hne : keyOf a ≠ keyOf k := fun y => z (keyOf_inj ha hk y)
      refine ⟨w :: vs', ?_, ?_⟩
      · rw [List.map_cons, if_neg z]
        exact ⟨ha, w, vs', rfl, h1, i1⟩
      · rw [List.map_cons, if_neg z]
        show (keyOf a, w) :: kpairs _ vs' = List.map _ ((keyOf a, w) :: kpairs r q)
        rw [i2, List.map_cons, if_neg hne]
theorem ksnoc {k d : D} {v : V} (hk : k.flatKey = true) (rd : RepD c S d v) : ∀ {kvs : List (D × D)} {vs : List V}, RepKs c S false kvs vs → RepKs c S false (kvs ++ [(k, d)]) (vs ++ [v]) ∧ kpairs (kvs ++ [(k, d)]) (vs ++ [v]) = kpairs kvs vs ++ [(keyOf k, v)]
  | [], vs, h => by rw [show vs = [] from h]; exact ⟨⟨hk, v, [], rfl, rd, rfl⟩, rfl⟩
  | (a, e) :: r, vs, ⟨ha, w, q, ev, h1, h2⟩ => by
    subst ev
    obtain ⟨i1, i2⟩ := ksnoc hk rd h2
    refine ⟨⟨ha, w, q ++ [v], rfl, h1, i1⟩, ?_⟩
    show (keyOf a, w) :: kpairs (r ++ [(k, d)]) (q ++ [v]) = (keyOf a, w) :: (kpairs r q ++ [(keyOf k, v)])
    rw [i2]
theorem kput {k d : D} {v : V} (hk : k.flatKey = true) (rd : RepD c S d v) {kvs : List (D × D)} {vs : List V} (h : RepKs c S false kvs vs) : ∃ vs', RepKs c S false (dput kvs k d) vs' ∧ kpairs (dput kvs k d) vs' = putK (kpairs kvs vs) (keyOf k) v := by
  unfold dput putK
  rw [← kany hk h]
  split
  · exact kmap hk rd h
  · exact ⟨_, ksnoc hk rd h⟩
theorem RepKs.app {kvs more : List (D × D)} {vs ws : List V} : RepKs c S false kvs vs → RepKs c S false more ws → RepKs c S false (kvs ++ more) (vs ++ ws) := by
  induction kvs generalizing vs with
  | nil => intro h h2; rw [show vs = [] from h]; exact h2
  | cons p r ih =>
    obtain ⟨a, e⟩ := p
    intro ⟨ha, w, q, ev, h1, h3⟩ h2
    subst ev
    exact ⟨ha, w, q ++ ws, rfl, h1, ih h3 h2⟩
/-- {..} and d.update -/
theorem kmerge : ∀ {more kvs : List (D × D)} {vs ws : List V}, RepKs c S false kvs vs → RepKs c S false more ws → ∃ vs', RepKs c S false (dmerge kvs more) vs' ∧ kpairs (dmerge kvs more) vs' = mergeK (kpairs kvs vs) (kpairs more ws)
  | [], kvs, vs, ws, h, h2 => by
    rw [show ws = [] from h2]
    exact ⟨vs, h, rfl⟩
  | (k, d) :: more, kvs, vs, ws, h, ⟨ha, w, q, ev, h1, h2⟩ => by
    subst ev
    obtain ⟨vs1, i1, i2⟩ := kput (k := k) ha h1 h
    obtain ⟨vs2, j1, j2⟩ := kmerge i1 h2
    refine ⟨vs2, j1, ?_⟩
    show kpairs (dmerge (dput kvs k d) more) vs2 = mergeK (putK (kpairs kvs vs) (keyOf k) w) (kpairs more q)
    rw [j2, i2]
end

section
variable {X : Cx} {c : Cn} {W : WX} {ws : List Nat} {R : Runs} {n : Nat} {pos tpos : Pos} {o i a : Expr} {io ii ia : IE}
/-- d[k] = v, the keys tuples of tuples -/
def rSetN (X : Cx) : TSet := fun o i v H Q => ∀ (pins : List (Addr × Obj)) (σ : L2.St) (s : Shared), Inv X pins σ H s → ∃ ks ps ep k q p, o = .ref p ∧ i = .ref q ∧ H p = some (.ext (NK.DicAt p ks (NK.weave ps ep))) ∧ NK.Keys X.prog X.w s.heap ks ps ∧ (NK.nk X.prog X.w).is s.heap k q ∧ ks.length < sizeLine ∧
  ∀ ep' : Nat, Q (L2.upd H p (.ext (NK.DicAt p (NK.putN ks ps k q v).1 (NK.weave (NK.putN ks ps k q v).2 ep'))))
def rSetLD (X : Cx) : TSet := fun o i v H Q => rSetL o i v H Q ∨ rSetD o i v H Q ∨ rSetN X o i v H Q
theorem set_LD (hu : X.A.units + 2 < cLine) : PSet X (rSetLD X) := by
  intro pins s σ H o i v ov iv u Q I ro ri rv h
  rcases h with h | h | h
  · exact set_list pins s σ H o i v ov iv u Q I ro ri rv h
  · exact set_dict (by omega) pins s σ H o i v ov iv u Q I ro ri rv h
  · obtain ⟨ks, ps, ep, k, q, p, rfl, rfl, hp, hk, hq, hl, h2⟩ := h pins σ s I
    cases ro
    cases ri
    exact NK.n_setItem hu I hp rfl hk hq rv hl fun ep' s' I' => ⟨_, I', h2 ep'⟩
theorem set_d {k d : D} : ∀ d', setItem (.val d') k d = none := fun _ => rfl
theorem r_set (hK : X.K = c.K) {S : Wd} {s : Store} {m m' : M} {k d : D} {p : Addr} {y z : V} {Q : Hp → Prop} (Rr : RlS c S s) (r : RepV c S m (.ref p)) (rk : RepD c S k z) (rd : RepD c S d y) (h : setItem m k d = some m') (q : ∀ ob, HLo ob → (∀ S' pl, S'.H p = some ob → S'.ow p = some pl → Fr S S' → RepM c S' pl m' (.ref p)) → Q (L2.upd S.H p ob)) : rSetLD X (.ref p) z y S.H Q := by
  cases m with
  | val d' => cases h
  | ol xs =>
    obtain ⟨p', vs, ev, h1, h2⟩ := r
    cases ev
    unfold setItem at h
    dsimp only at h
    split at h
    · rename_i j
      cases e : L2.ixN xs.length j with
      | none => rw [e] at h; cases h
      | some t =>
        rw [e] at h
        have h : some (M.ol (xs.set t d)) = some m' := h
        cases h
        have hl := h2.length
        exact .inl ⟨p, vs, j, t, rfl, rk, h1, by rw [hl]; exact e, q _ (HLo.lst (by rw [List.length_set]; exact len_lst Rr h1)) fun S' pl hH ho f => ⟨p, _, rfl, hH, ho, (h2.mono f).set (rd.mono f) t⟩⟩
    · cases h
  | od t kvs =>
    cases t with
    | true =>
      obtain ⟨p', vs, ev, h1, h2⟩ := r
      cases ev
      unfold setItem at h
      dsimp only at h
      split at h
      · rename_i hk
        cases h
        obtain ⟨hk1, hk2⟩ := hk
        have hk1 : k.tupKey = true := hk1
        obtain ⟨ps, ep, rfl, rn⟩ := h2.toN
        obtain ⟨a, rfl⟩ := tup_ref hk1 rk
        refine .inr (.inr fun pins σ s I => ⟨_, ps, ep, nKey k, a, p, rfl, rfl, h1, keys_is hK I rn, nk_is hK I hk1 rk, by rw [List.length_map, List.length_map]; exact lim_lt hk2, fun ep' => q _ HLo.dN fun S' pl hH ho f => ?_⟩)
        obtain ⟨i1, i2⟩ := putN_rep hk1 (rk.mono f) (rd.mono f) (rn.mono f)
        refine ⟨p, _, rfl, ?_, ho, i1.toKs (ep := (ep' : Int))⟩
        rw [hH, i2]
        rfl
      · cases h
    | false =>
    obtain ⟨p', vs, ev, h1, h2⟩ := r
    cases ev
    unfold setItem at h
    dsimp only at h
    split at h
    · rename_i hk
      cases h
      obtain ⟨hk1, hk2⟩ := hk
      have hk1 : k.flatKey = true := hk1
      have hz := keyOf_V hk1 rk
      have hlen := RepKs.len2 h2
      refine .inr (.inl ⟨p, _, rfl, .inl ⟨kpairs kvs vs, keyOf k, h1, hz, by rw [hlen]; exact lim_lt hk2, rfl⟩, q _ (HLo.dK ?_) fun S' pl hH ho f => ?_⟩)
      · have h3 := length_putK (kpairs kvs vs) (keyOf k) y
        have : kvs.length < 16777216 := hk2
        omega
      · obtain ⟨vs', i1, i2⟩ := kput hk1 (rd.mono f) (h2.mono f)
        exact ⟨p, vs', rfl, by rw [hH, ← i2]; rfl, ho, i1⟩
    · cases h
theorem s_setI (hK : X.K = c.K) (hu : X.A.units + 2 < cLine) (hw : ∀ j ∈ io.slot?, j ∈ ws) (hs : ∀ l, swapsWithSole [.Subscript o i tpos] a l X.env = pure false) (hsw : swappedStores [.Subscript o i tpos] a X.env = pure none) (ha : PE X a (tE c W (ev R ia))) (ho : PE X o (tE c W (ev R io))) (hi : PE X i (tE c W (ev R ii)))
    (hasg : ∀ v, assign (.Subscript o i tpos) X.env v = (do
      let ov ← holding [v] (eval o X.env)
      let iv ← holding [v, ov] (eval i X.env)
      standAt tpos
      holding [v, ov, iv] (PySem.setItem ov iv v)
      release [v, ov, iv] [])) : PS X (.Assign [.Subscript o i tpos] a pos) (tS c W ws (exec R n (.setI io ii ia))) := by
  refine (ps_asg ha (pg_sub ho hi (set_LD hu) hasg) (hs _) hsw rfl).weak fun D σ H q => ?_
  obtain ⟨S, e, s, rfl, Rr, p⟩ := q
  refine valD_okS Rr p fun S1 e1 s1 d y R1 st1 rd p1 => ?_
  refine ⟨S1, e1, s1, rfl, R1, PostS.bindE R1.toRlS p1 fun x e2 s2 S2 v q2 R2 st2 rp2 p2 => ?_⟩
  obtain ⟨S2', pd, R2', hH, ste⟩ := pend2 R2 rp2
  rw [← hH]
  refine valD_from R2' R2.toRlS ste p2 fun S3 e3 s3 k z R3 st3 rk p3 => ?_
  obtain ⟨a2, m, m', ev, _, hrep, hm', hnx⟩ := at_ok R2 rp2 pd st3 R3 p3 set_d hw
  subst ev
  exact r_set hK (Q := fun H3 => D.nx σ H3) R3.toRlS hrep rk (rd.mono ((st2.toFr.trans ste.toFr).trans st3.toFr)) hm' hnx
/-- x = o.pop() -/
theorem s_pop {t : Nat} {x : Expr} (hw : ∀ j ∈ t :: io.slot?, j ∈ ws) {apos cpos : Pos} (hpo : plainE o = true) (hline : (apos.endLine == cpos.line) = true) (hK : X.K = c.K) (ho : PE X o (tE c W (ev R io)))
    (h : ∀ {te : TE}, PE X (.Call (.Attribute o "pop" apos) [] [] cpos) te → PS X (.Assign [x] (.Call (.Attribute o "pop" apos) [] [] cpos) pos) (tAsg te (gT X.K (.one t)))) :
    PS X (.Assign [x] (.Call (.Attribute o "pop" apos) [] [] cpos) pos) (tS c W ws (exec R n (.pop t io))) := by
  refine (h (pe_bm0 PySem.F.plainAttrs_list PySem.F.slot_list_pop PySem.F.type_list_pop mt_pop ho (plain_base hpo _ _ _) hline)).weak fun D σ H q => ?_
  obtain ⟨S, e, s, rfl, Rr, p⟩ := q
  refine ⟨S, e, s, rfl, Rr, PostS.bindE Rr.toRlS p fun x e1 s1 S1 v q1 R1 st1 rp1 p1 => ?_⟩
  split at p1
  · rename_i pl hq
    split at p1
    · rename_i xs hc
      split at p1
      · rename_i d hd
        split at p1
        · rename_i e2 s2 hp
          split at p1
          · rename_i e3 hst
            obtain ⟨a, rfl, hh, hi⟩ := curr_ok R1 rp1.1 rp1.2 (StE.refl S1 s1) R1 hq (by cases pl.fsrc <;> simp [same]) hc rfl
            obtain ⟨b, vs, eb, h1, h2, h3⟩ := id hh.con
            cases eb
            have hd' : xs[xs.length - 1]? = some d := by rw [← List.getLast?_eq_getElem?]; exact hd
            obtain ⟨y, hy, ry⟩ := h3.get hd'
            have hv := h3.length
            have hle := len_lst R1.toRlS h1
            obtain ⟨R2, st2⟩ := put_ok (m' := .ol xs.dropLast) (o := .lst vs.dropLast) R1 hh (pln_con (m := .ol xs) rfl hh.con.view) (HLo.lst (by rw [List.length_dropLast]; omega)) (fun S' pl' hH ho f => ⟨a, _, rfl, hH, ho, by
              rw [List.dropLast_eq_take, List.dropLast_eq_take, hv]
              exact (h3.mono f).take _⟩) hp
            refine ⟨.inl ⟨rfl, vs, .inl (.inl h1)⟩, a, vs, y, rfl, rfl, h1, by rw [hv]; exact hy, ?_⟩
            refine tg_ok hK R2 (m := .val d) (ry.mono st2.toFr) hst fun S' σ' hH R' st' _ => p1 S' σ' R' ?_
            exact (st2.mono fun i hj => hw i (List.mem_cons_of_mem _ (hi i hj))).trans R1.dom (st'.mono fun i hj => hw i (by
              have : i = t := by simpa [Tg.slots] using hj
              rw [this]; exact List.mem_cons_self ..))
          · exact p1.elim
        · exact p1.elim
      · exact p1.elim
    · exact p1.elim
  · exact p1.elim
end
end OI

/-! OIr: what is walked; for, while. -/
namespace OI
open PySem PySem.Spec PyProof.Rows L2

/-- the iterator yields ds at S -/
structure WalksAt (c : Cn) (J : L2.It) (ds : List D) (S : Wd) : Prop where
  go : ∀ i d, ds[i]? = some d → J.go i S.H
  yld : ∀ i d s x H', ds[i]? = some d → RlS c S s → J.yld i S.H x H' → ∃ S', Al c S S' ∧ S'.H = H' ∧ RepD c S' d x
  stop : ∀ i, ds.length ≤ i → J.stop i S.H
abbrev rI (c : Cn) : Wd → Store → List D × List Src → L2.It → Prop := fun S s x J => ∀ ws S' s', StS ws S S' s s' → still x.2 s s' = true → apart x.2 ws = true → WalksAt c J x.1 S'
def tI (c : Cn) (W : WX) (f : OI.Env → Store → Res (List D × List Src)) : TI := tG c W f fun _ => rI c
theorem _root_.L2.PI.weak {X : Cx} {tg a : Expr} {t u : TI} (h : PI X tg a u) (k : ∀ σ H Q, t σ H Q → u σ H Q) : PI X tg a t := ⟨fun pins s σ H Q I q => h.run pins s σ H Q I (k σ H Q q)⟩

/-! ### a list, a tuple, a text -/
def iAny (K : PySem.W.Frag) (te : TE) : TI := fun σ H R => te σ H fun x H1 => (∃ a xs, x = .ref a ∧ SqL K H1 a xs ∧ R (Itl K a) H1) ∨ (∃ a xs, x = .ref a ∧ SqT K H1 a xs ∧ R (Itt K a) H1) ∨ (∃ z, x = .str z ∧ R (Its z) H1) ∨ ∃ a ks vs, x = .ref a ∧ H1 a = some (.ext (NK.DicAt a ks vs)) ∧ ks.length = (NK.unw vs).1.length ∧ R (NK.Itn a ks vs) H1
theorem pi_any {X : Cx} {tg l : Expr} {te : TE} (hl : PE X l te) : PI X tg l (iAny X.K te) := by
  refine ⟨fun pins s σ H R I h => ?_⟩
  refine thn (hl.run pins s σ H _ I h) fun v s1 ⟨x, H1, I1, r1, q1⟩ => ?_
  rcases q1 with ⟨a, xs, rfl, hq, q⟩ | ⟨a, xs, rfl, hq, q⟩ | ⟨z, rfl, q⟩ | ⟨a, ks, vs, rfl, hd, hl, q⟩
  · cases r1
    obtain ⟨its, rv, p, hz⟩ := I1.list hq
    refine wpAny_pyIter_list p.isList ?_
    refine ⟨s1.heap.objs.size, [s1.heap.objs.size], _, _, H1, rfl, I1.kept (t' := s1.toks) fun b o e => Heap.get?_push_of_some _ e, turn_list a _, ⟨_, Heap.get?_push_size _ rfl, rfl, rfl⟩, fun b hb => ?_, q⟩
    have e : b = s1.heap.objs.size := by simpa using hb
    subst e
    exact I1.fpOk (Nat.le_refl _) (I1.hok.fresh (Nat.le_refl _))
  · cases r1
    obtain ⟨its, rv, p, hz⟩ := I1.tuple hq
    refine wpAny_pyIter_tuple (show s1.heap.IsTuple a its.toArray from p) ?_
    refine ⟨s1.heap.objs.size, [s1.heap.objs.size], _, _, H1, rfl, I1.kept (t' := s1.toks) fun b o e => Heap.get?_push_of_some _ e, turn_tuple a _, ⟨_, Heap.get?_push_size _ rfl, rfl, rfl⟩, fun b hb => ?_, q⟩
    have e : b = s1.heap.objs.size := by simpa using hb
    subst e
    exact I1.fpOk (Nat.le_refl _) (I1.hok.fresh (Nat.le_refl _))
  · obtain ⟨t, rfl⟩ := r1
    cases ha : z.cps.all (· < 128)
    · exact wpAny_pyIter_wide ha (pi_one (tk := s1.toks) I1 _ (turn_str _ z t "str_iterator" (.inr rfl)) ⟨_, Heap.get?_push_size _ rfl, rfl, rfl⟩ q)
    · exact wpAny_pyIter_ascii ha (pi_one (tk := s1.toks) I1 _ (turn_str _ z t "str_ascii_iterator" (.inl rfl)) ⟨_, Heap.get?_push_size _ rfl, rfl, rfl⟩ q)
  · cases r1
    obtain ⟨o, es, hs, hgd, hx, hdt, hsz, _⟩ := NK.dic_raw I1 hd hl
    refine iter_keys hs hgd hx hdt (pi_one (tk := s1.toks) I1 _ (NK.turn_n _ hl) ⟨_, Heap.get?_push_size _ rfl, rfl, ?_⟩ q)
    rw [hsz] <;> rfl

section
variable {c : Cn} {W : WX} {ws : List Nat} {σ : L2.St} {S S' : Wd} {s s' : Store} {e : OI.Env}
/-- what is walked may be read as long as its source was left alone -/
theorem wk_keep {m : M} {pl : Pl} {v : V} (R : RlS c S s) (h : RepM c S pl m v) (hp : pl ≠ .tmp) (st : StS ws S S' s s') (k : still (wk m pl s).2 s s' = true) (ha : apart (wk m pl s).2 ws = true) : RepV c S' (wk m pl s).1 v := by
  have f := st.toFr
  have ent : ∀ n, s[n]? = s'[n]? → ∀ a p, S.ow a = some p → p.src = some n → S'.H a = S.H a := fun n hn a p hp hs => by
    have hlt := R.src a p n hp hs
    have he := List.getElem?_eq_getElem hlt
    exact (st.ent n _ he (hn ▸ he) a p hp hs).1
  have own : m.isVal = false → still pl.walk s s' = true → apart pl.walk ws = true → ∀ a, S.ow a = some pl → S'.H a = S.H a := fun hm k ha a ho => by
    cases pl with
    | slot i =>
      have hi : i ∉ ws := by simpa [Pl.walk, apart] using ha
      exact (st.slot a i hi ho).1
    | fld n g =>
      have hn : s[n]? = s'[n]? := by simpa [Pl.walk, still] using k
      exact ent n hn a _ ho rfl
    | obj n =>
      have hn : s[n]? = s'[n]? := by simpa [Pl.walk, still] using k
      exact ent n hn a _ ho rfl
    | tmp => exact absurd rfl hp
    | oth => exact (st.oth a ho).1
  cases m with
  | val d =>
    cases d with
    | loc n =>
      obtain ⟨a, e1, ha'⟩ := h
      unfold wk at k ha ⊢
      dsimp only at k ha ⊢
      split at k
      · rename_i xs w he
        obtain ⟨h0, vs, h1, h2⟩ := Rl.locs R ha' he
        have hn : s[n]? = s'[n]? := by simpa [still] using k
        exact ⟨a, vs, e1, by rw [ent n hn a _ h0 rfl]; exact h1, h2.mono f⟩
      · rename_i t kvs w he
        obtain ⟨h0, vs, h1, h2⟩ := Rl.locs R ha' he
        have hn : s[n]? = s'[n]? := by simpa [still] using k
        exact ⟨a, vs, e1, by rw [ent n hn a _ h0 rfl]; exact h1, h2.mono f⟩
      · exact ⟨a, e1, f.amAt ha'⟩
    | _ => exact RepD.mono f h
  | ol xs =>
    obtain ⟨p, vs, e1, h1, h2, h3⟩ := h
    exact ⟨p, vs, e1, by rw [own rfl k ha p h2]; exact h1, h3.mono f⟩
  | od t kvs =>
    obtain ⟨p, vs, e1, h1, h2, h3⟩ := h
    exact ⟨p, vs, e1, by rw [own rfl k ha p h2]; exact h1, h3.mono f⟩
/-- a dict that is walked lies as it lay -/
theorem wk_dic {m : M} {pl : Pl} {v : V} {kvs : List (D × D)} (R : RlS c S s) (h : RepM c S pl m v) (hp : pl ≠ .tmp) (hd : (wk m pl s).1.dic? = some (true, kvs)) : ∃ a vs, v = .ref a ∧ S.H a = some (dHO c a true (kvs.map (·.1)) vs) ∧ RepKs c S true kvs vs ∧
    ∀ ws S' s', StS ws S S' s s' → still (wk m pl s).2 s s' = true → apart (wk m pl s).2 ws = true → S'.H a = S.H a := by
  have ent : ∀ {S' : Wd} {s' : Store} {ws : List Nat}, StS ws S S' s s' → ∀ n, s[n]? = s'[n]? → ∀ a p, S.ow a = some p → p.src = some n → S'.H a = S.H a := fun st n hn a p hp hs => by
    have hlt := R.src a p n hp hs
    have he := List.getElem?_eq_getElem hlt
    exact (st.ent n _ he (hn ▸ he) a p hp hs).1
  cases m with
  | val d =>
    cases d with
    | loc n =>
      obtain ⟨a, e1, ha'⟩ := h
      unfold wk at hd ⊢
      dsimp only at hd ⊢
      split at hd
      · cases hd
      · rename_i t kvs' w he
        cases hd
        obtain ⟨h0, vs, h1, h2⟩ := Rl.locs R ha' he
        refine ⟨a, vs, e1, h1, h2, fun ws S' s' st k _ => ?_⟩
        have hn : s[n]? = s'[n]? := by simpa [still] using k
        exact ent st n hn a _ h0 rfl
      · cases hd
    | dic t kvs' =>
      cases hd
      obtain ⟨a, vs, e1, h1, h2, h3⟩ := h
      exact ⟨a, vs, e1, h1, h3, fun ws S' s' st _ _ => by rw [(st.toFr.keep a _ h1 h2 dHO_nt).1, h1]⟩
    | _ => cases hd
  | ol xs => cases hd
  | od t kvs' =>
    cases hd
    obtain ⟨a, vs, e1, h1, h2, h3⟩ := h
    refine ⟨a, vs, e1, h1, h3, fun ws S' s' st k ha => ?_⟩
    cases pl with
    | slot i =>
      have hi : i ∉ ws := by simpa [wk, Pl.walk, apart] using ha
      exact (st.slot a i hi h2).1
    | fld n g =>
      have hn : s[n]? = s'[n]? := by simpa [wk, Pl.walk, still] using k
      exact ent st n hn a _ h2 rfl
    | obj n =>
      have hn : s[n]? = s'[n]? := by simpa [wk, Pl.walk, still] using k
      exact ent st n hn a _ h2 rfl
    | tmp => exact absurd rfl hp
    | oth => exact (st.oth a h2).1
theorem RepN.at {i : Nat} : ∀ {kvs : List (D × D)} {ps : List (Addr × V)} {i : Nat} {d : D}, RepN c S kvs ps → (kvs.map (·.1))[i]? = some d → ∃ q v, ps[i]? = some (q, v) ∧ RepD c S d (.ref q)
  | [], _, _, _, _, h => by simp at h
  | (k, d) :: r, _, i, d', ⟨q, v, t, e, hk, h1, h2, h3⟩, h => by
    subst e
    cases i with
    | zero =>
      simp at h
      subst h
      exact ⟨q, v, rfl, h1⟩
    | succ i =>
      rw [List.map_cons, List.getElem?_cons_succ] at h
      obtain ⟨q', v', h4, h5⟩ := RepN.at (i := i) h3 h
      exact ⟨q', v', by simpa using h4, h5⟩
theorem gives_dic {a : Addr} {kvs : List (D × D)} {vs : List V} {ps : List (Addr × V)} {ep : Int} (h : S.H a = some (.ext (NK.DicAt a ((kvs.map (·.1)).map nKey) vs))) (hv : vs = NK.weave ps ep) (r : RepN c S kvs ps) : WalksAt c (NK.Itn a ((kvs.map (·.1)).map nKey) vs) (kvs.map (·.1)) S where
  go := fun i d hd => ⟨h, by rw [List.length_map]; exact (List.getElem?_eq_some_iff.mp hd).1⟩
  yld := fun i d s x H' hd Rr hy => by
    obtain ⟨e, q, v, hq, rfl⟩ := hy
    obtain ⟨q', v', h1, h2⟩ := RepN.at (i := i) r hd
    rw [hv, NK.unw_weave] at hq
    rw [h1] at hq
    cases hq
    exact ⟨S, Al.refl Rr, e.symm, h2⟩
  stop := fun i hi => ⟨h, by rw [List.length_map]; exact hi⟩
theorem gives_list {a : Addr} {ds : List D} {vs : List V} {K : PySem.W.Frag} (hK : K = c.K) (h : SqL c.K S.H a vs) (r : RepDs c S ds vs) : WalksAt c (Itl K a) ds S where
  go := fun i d hd => by
    obtain ⟨v, hv, _⟩ := r.get hd
    rw [hK]
    exact ⟨vs, v, h, hv⟩
  yld := fun i d s x H' hd Rr hy => by
    obtain ⟨e, hy⟩ := hy
    rw [hK] at hy
    obtain ⟨v, hv, rd⟩ := r.get hd
    have := hy vs h
    rw [hv] at this
    cases this
    exact ⟨S, Al.refl Rr, e.symm, rd⟩
  stop := fun i hi => by rw [hK]; exact ⟨vs, h, by rw [r.length]; exact hi⟩
theorem gives_tup {a : Addr} {ds : List D} {vs : List V} {K : PySem.W.Frag} (hK : K = c.K) (h : SqT c.K S.H a vs) (r : RepDs c S ds vs) : WalksAt c (Itt K a) ds S where
  go := fun i d hd => by
    obtain ⟨v, hv, _⟩ := r.get hd
    rw [hK]
    exact ⟨vs, v, h, hv⟩
  yld := fun i d s x H' hd Rr hy => by
    obtain ⟨e, hy⟩ := hy
    rw [hK] at hy
    obtain ⟨v, hv, rd⟩ := r.get hd
    have := hy vs h
    rw [hv] at this
    cases this
    exact ⟨S, Al.refl Rr, e.symm, rd⟩
  stop := fun i hi => by rw [hK]; exact ⟨vs, h, by rw [r.length]; exact hi⟩
theorem gives_rng {lo hi : Int} : WalksAt c (Itr lo (hi - lo).toNat) (rng lo hi) S where
  go := fun i d hd => by
    have h1 := (List.getElem?_eq_some_iff.mp hd).1
    have h2 : i < (hi - lo).toNat := by
      unfold rng at h1
      rw [List.length_map, List.length_range] at h1
      exact h1
    exact h2
  yld := fun i d s x H' hd Rr hy => by
    obtain ⟨e, hx⟩ := hy
    have hlt := (List.getElem?_eq_some_iff.mp hd).1
    have : d = .int (lo + (i : Nat)) := by
      unfold rng at hd
      rw [List.getElem?_map, List.getElem?_range (by simpa [rng] using hlt)] at hd
      exact (Option.some.inj hd).symm
    subst this
    exact ⟨S, Al.refl Rr, e.symm, hx⟩
  stop := fun i hl => by
    have h2 : (hi - lo).toNat ≤ i := by
      unfold rng at hl
      rw [List.length_map, List.length_range] at hl
      exact hl
    exact h2
theorem gives_str {z : Str} : WalksAt c (Its z) (signs z) S where
  go := fun i d hd => by
    have h1 := (List.getElem?_eq_some_iff.mp hd).1
    have h2 : i < z.cps.size := by
      unfold signs at h1
      rw [List.length_map, Array.length_toList] at h1
      exact h1
    exact h2
  yld := fun i d s x H' hd Rr hy => by
    obtain ⟨e, cc, hc, hx⟩ := hy
    have : d = .str ⟨#[cc]⟩ := by
      unfold signs at hd
      rw [List.getElem?_map, Array.getElem?_toList, hc] at hd
      exact (Option.some.inj hd).symm
    subst this
    exact ⟨S, Al.refl Rr, e.symm, hx⟩
  stop := fun i hl => by
    have h2 : z.cps.size ≤ i := by
      unfold signs at hl
      rw [List.length_map, Array.length_toList] at hl
      exact hl
    exact h2
theorem items_how {m : M} {ds : List D} (h : items m = some ds) : m.lst? = some ds ∨ m = .val (.tup ds) ∨ (∃ z, m = .val (.str z) ∧ ds = signs z) ∨ ∃ kvs, m.dic? = some (true, kvs) ∧ ds = kvs.map (·.1) := by
  unfold items at h
  split at h
  · cases h; exact .inr (.inr (.inl ⟨_, rfl, rfl⟩))
  · split at h
    · rename_i xs hs
      cases h
      unfold M.seq? at hs
      split at hs
      · cases hs; exact .inr (.inl rfl)
      · exact .inl hs
    · split at h
      · rename_i kvs hd
        cases h
        exact .inr (.inr (.inr ⟨kvs, hd, rfl⟩))
      · cases h
end
section
variable {X : Cx} {c : Cn} {W : WX} {R : Runs} {tg a a2 a3 : Expr} {ia ib ic : IE} {p pos : Pos}
theorem s_of (hK : X.K = c.K) (ha : PE X a (tE c W (ev R ia))) : PI X tg a (tI c W (evi R (.of ia))) :=
  (pi_any ha).weak fun σ H Q q => by
    obtain ⟨S, e, s, rfl, Rr, p⟩ := q
    refine ⟨S, e, s, rfl, Rr, PostG.bind Rr.toRlS p fun x e1 s1 S1 v q1 R1 st1 rp1 p1 => ?_⟩
    obtain ⟨S2, pl', R2, hH, ham, rp2, hpl, _, hwk, st2⟩ := pend R1 rp1.1
    replace p1 := PostG.shift R1.toRlS st2 p1
    unfold itK at p1
    rw [← hwk] at p1
    rw [← hH]
    split at p1
    · rename_i xs hx
      have hv : ∀ ws S' s', StS ws S2 S' s1 s' → still (wk x.1 pl' s1).2 s1 s' = true → apart (wk x.1 pl' s1).2 ws = true → RepV c S' (wk x.1 pl' s1).1 v := fun ws S' s' st k ha => wk_keep R2.toRlS rp2 hpl st k ha
      have h0 : RepV c S2 (wk x.1 pl' s1).1 v := hv [] S2 s1 (StS.refl _ _ _) (by simp [still]; intro w _; cases w <;> simp) (by simp [apart]; intro w _; cases w <;> simp)
      rcases items_how hx with h | h | ⟨z, h, hz⟩ | ⟨kvs, h, hz⟩
      · obtain ⟨a, vs, ev, hl, _⟩ := lst_of h h0
        refine .inl ⟨a, vs, ev, by rw [hK]; exact hl, p1 S2 _ R2 (StE.refl _ _) fun ws S' s' st k ha => ?_⟩
        obtain ⟨b, vs', ev', hl', rd⟩ := lst_of h (hv ws S' s' st k ha)
        rw [ev] at ev'
        cases ev'
        exact gives_list hK hl' rd
      · rw [h] at h0
        obtain ⟨a, vs, ev, hl, _⟩ := h0
        refine .inr (.inl ⟨a, vs, ev, by rw [hK]; exact hl.sq, p1 S2 _ R2 (StE.refl _ _) fun ws S' s' st k ha => ?_⟩)
        have h1 := hv ws S' s' st k ha
        rw [h] at h1
        obtain ⟨b, vs', ev', hl', rd⟩ := h1
        rw [ev] at ev'
        cases ev'
        exact gives_tup hK hl'.sq rd
      · rw [h] at h0
        refine .inr (.inr (.inl ⟨z, h0, p1 S2 _ R2 (StE.refl _ _) fun ws S' s' st k ha => ?_⟩))
        rw [hz]
        exact gives_str
      · obtain ⟨a, vs, rfl, hl, rk, same⟩ := wk_dic R2.toRlS rp2 hpl h
        obtain ⟨ps, ep, hvs, rn⟩ := rk.toN
        refine .inr (.inr (.inr ⟨a, _, vs, rfl, hl, by rw [hvs, NK.unw_weave]; exact rn.len_keys, p1 S2 _ R2 (StE.refl _ _) fun ws S' s' st k ha => ?_⟩))
        rw [hz]
        exact gives_dic (by rw [same ws S' s' st k ha]; exact hl) hvs (rn.mono st.toFr)
    · exact p1.elim
theorem getI_ok {α β : Type} {m : M} {S : Wd} {s : Store} {e : OI.Env} {σ : L2.St} {k : Int → OI.Env → Store → Res α} {rep : Wd → Store → α → β → Prop} {Q : β → Hp → Prop} (h : PostG c W σ S s ((getI m e s).bind k) rep Q) : ∃ i, m = .val (.int i) ∧ -(2 ^ 62) ≤ i ∧ i < 2 ^ 62 ∧ PostG c W σ S s (k i e s) rep Q := by
  unfold getI at h
  split at h
  · rename_i i
    by_cases hi : -(2 ^ 62) ≤ i ∧ i < 2 ^ 62
    · rw [if_pos hi] at h
      exact ⟨i, rfl, hi.1, hi.2, h⟩
    · rw [if_neg hi] at h
      exact h.elim
  · exact h.elim
/-! a range of any ints -/
theorem turn_rangeL {P : Program} {w : World} {K : PySem.W.Frag} {tg : Expr} (it : Addr) (lo : Int) (n : Nat) : Turn P w K tg (Itr lo n) [it] it (fun i h => IsLongIter h it (lo + (i : Nat) * 1) ((n : Int) - (i : Nat)) 1) where
  mem := by simp
  obj := fun i h st b hb => by
    have e : b = it := by simpa using hb
    subst e
    exact ⟨_, st, fun v z => by
      have z' : Data.fields _ = Data.cell v := z
      cases z'⟩
  keep := fun i h h' st k => k it (by simp) _ st
  item := by
    intro X hP hw hK hc i pins s σ H E I hf st hg
    subst hP hw hK
    obtain ⟨f0, f1, f2, f3, f4, f5⟩ := hf it (by simp)
    have W := Walks.longrange (prog := X.prog) (w := X.w) (I.ok.hd hc) it lo 1 n
    refine W.item i s _ _ hg st fun v h' tk hv st' kk => ?_
    obtain ⟨t, rfl⟩ := hv
    have I1 : Inv X pins σ H { s with heap := h', toks := tk } := I.turned (fun b o hb e => kk b o (by simpa using hb) e) f0 f1 f3 f4 f5
    refine ⟨_, rfl, go_of (s := { s with heap := h', toks := tk }) (n := "longrange_iterator") st' rfl rfl (by decide) ⟨.int (lo + i), H, I1, ⟨t, ?_⟩, ⟨rfl, rfl⟩, st', fun b hb => (hf b hb).1⟩⟩
    rw [Int.mul_one]
  done := by
    intro X hP hw hK hc i pins s σ H E I hf st hg
    subst hP hw hK
    obtain ⟨f0, f1, f2, f3, f4, f5⟩ := hf it (by simp)
    exact wpAny_pyNext_long_end (I.ok.hd hc) st (by have : n ≤ i := hg; omega) fun h' eb => ⟨rfl, I.turned (t' := s.toks) (fun b o hb e => eb b o hb e) f0 f1 f3 f4 f5⟩
  self := fun _ _ _ _ _ st h => wpAny_pyIter_longiter st h
theorem range_itZ {pins : List (Addr × Obj)} {σ : L2.St} {H : Hp} {s : Shared} {Q : L2.It → Hp → Prop} {E : Value → Shared → Prop} {lo hi : Int} {t u v : Tok} {tk : Nat} (I : Inv X pins σ H s)
    (q : Q (Itr lo (hi - lo).toNat) H) : wpAny (model X.prog X.w) X.A (pyIter (.ref s.heap.objs.size)) (PIE X pins σ tg Q) E { s with heap := s.heap.push { cls := .type "range", data := .fields #[.int lo t, .int hi u, .int 1 v] }, toks := tk } := by
  have I1 : Inv X pins σ H { s with heap := s.heap.push { cls := .type "range", data := .fields #[.int lo t, .int hi u, .int 1 v] }, toks := tk } := I.kept fun b o e => Heap.get?_push_of_some _ e
  have e1 : lo + ((0 : Nat) : Int) * 1 = lo := by simp
  have e2 : (((hi - lo).toNat : Nat) : Int) - ((0 : Nat) : Int) = Builtin.Range.rangeSize lo hi 1 := by rw [rangeSize_one]; split <;> omega
  have fp : ∀ b ∈ [(s.heap.push { cls := .type "range", data := .fields #[.int lo t, .int hi u, .int 1 v] }).objs.size], FpOk X pins H b := fun b hb => by
    have e : b = (s.heap.push { cls := .type "range", data := .fields #[.int lo t, .int hi u, .int 1 v] }).objs.size := by simpa using hb
    subst e
    exact I1.fpOk (Nat.le_refl _) (I1.hok.fresh (Nat.le_refl _))
  by_cases hs : Builtin.Range.small lo hi 1 = true
  · refine wpAny_pyIter_range (IsRange.new ..) hs ?_
    refine ⟨(s.heap.push { cls := .type "range", data := .fields #[.int lo t, .int hi u, .int 1 v] }).objs.size, [(s.heap.push { cls := .type "range", data := .fields #[.int lo t, .int hi u, .int 1 v] }).objs.size], _, _, H, rfl,
      I1.kept (t' := tk) fun b o e => Heap.get?_push_of_some _ e, turn_range _ lo (hi - lo).toNat, ?_, fp, q⟩
    show IsRangeIter _ _ (lo + ((0 : Nat) : Int) * 1) ((((hi - lo).toNat : Nat) : Int) - ((0 : Nat) : Int)) 1
    rw [e1, e2]
    exact Heap.get?_push_size _ rfl
  · refine wpAny_pyIter_longrange (IsRange.new ..) (by simpa using hs) ?_
    refine ⟨(s.heap.push { cls := .type "range", data := .fields #[.int lo t, .int hi u, .int 1 v] }).objs.size, [(s.heap.push { cls := .type "range", data := .fields #[.int lo t, .int hi u, .int 1 v] }).objs.size], _, _, H, rfl,
      I1.kept (t' := tk) fun b o e => Heap.get?_push_of_some _ e, turn_rangeL _ lo (hi - lo).toNat, ?_, fp, q⟩
    show IsLongIter _ _ (lo + ((0 : Nat) : Int) * 1) ((((hi - lo).toNat : Nat) : Int) - ((0 : Nat) : Int)) 1
    rw [e1, e2]
    exact Heap.get?_push_size _ rfl
def iRng2Z (ta : TA) : TI := fun σ H R => ta σ H fun vs H1 => ∃ i j : Int, vs = [.int i, .int j] ∧ R (Itr i (j - i).toNat) H1
theorem pi_range2Z {a b : Expr} {ta : TA} {p pos : Pos} (hg : Gl X "range") (hm : X.mg "range" = none) (ha : PA X [a, b] ta) (hs : starEach [a, b] X.env = [(false, eval a X.env), (false, eval b X.env)]) (hs2 : starEach [b] X.env = [(false, eval b X.env)]) :
    PI X tg (.Call (.Name "range" p) [a, b] [] pos) (iRng2Z ta) := by
  refine ⟨fun pins s σ H R I h => ?_⟩
  refine Call_ (ld_blt I hg hm boot_range (PyProof.Rows.callWith_type1 (thn (ha.run pos pins s σ H _ I h) fun us s1 ⟨vs, H1, I1, r1, q1⟩ => ?_) (by rw [hs, hs2]) (by rw [hs2]; rfl)))
  obtain ⟨i, j, e, q⟩ := q1
  subst e
  cases r1 with
  | cons r rr =>
    cases rr with
    | cons r' rr =>
      cases rr
      obtain ⟨t, rfl⟩ := r
      obtain ⟨t', rfl⟩ := r'
      exact call_range_2 (range_itZ I1 q)
theorem s_rng1 (hg : Gl X "range") (hm : X.mg "range" = none) (hp : plainE a = true) (ha : PE X a (tE c W (ev R ia))) : PI X tg (.Call (.Name "range" p) [a] [] pos) (tI c W (evi R (.rng1 ia))) :=
  (pi_range1 hg hm (pa1 hp ha) (star1 hp)).weak fun σ H Q q => by
    obtain ⟨S, e, s, rfl, Rr, p⟩ := q
    refine ⟨S, e, s, rfl, Rr, PostG.bind Rr.toRlS p fun x e1 s1 S1 v q1 R1 st1 rp1 p1 => ?_⟩
    unfold rng1K at p1
    obtain ⟨j, hx, h1, h2, p1⟩ := getI_ok p1
    have r := rp1.1
    rw [hx] at r
    refine ⟨j, by rw [show v = V.int j from r], h1, h2, p1 S1 _ R1 (StE.refl _ _) fun ws S' s' _ _ _ => ?_⟩
    have := gives_rng (c := c) (S := S') (lo := 0) (hi := j)
    rw [Int.sub_zero] at this
    exact this
theorem two_I {fa fb : OI.Env → Store → Res (M × Pl)} {k : M → M → OI.Env → Store → Res (List D × List Src)} {σ : L2.St} {H : Hp} {Q : L2.It → Hp → Prop} {rest : V → V → Hp → Prop} (h : tI c W (two fa fb k) σ H Q)
    (hr : ∀ S e s m1 m2 x y, Rl c S e s σ → RepV c S m1 x → RepV c S m2 y → PostG c W σ S s (k m1 m2 e s) (rI c) Q → rest x y S.H) :
    tE c W fa σ H fun x H1 => tE c W fb σ H1 fun y H2 => rest x y H2 := by
  obtain ⟨S, e, s, rfl, Rr, p⟩ := h
  refine ⟨S, e, s, rfl, Rr, PostG.bind Rr.toRlS p fun x1 e1 s1 S1 v1 q1 R1 st1 rp1 p1 => ?_⟩
  obtain ⟨S1', pl', R1', hH, ham, rp1', hpl, hbw, _, st1'⟩ := pend R1 rp1.1
  replace p1 := PostG.shift R1.toRlS st1' p1
  refine ⟨S1', e1, s1, hH, R1', PostG.bind R1'.toRlS p1 fun x2 e2 s2 S2 v2 q2 R2 st2 rp2 p2 => ?_⟩
  split at p2
  · rename_i hs
    rw [← hbw] at hs p2
    exact hr S2 e2 s2 _ _ v1 v2 R2 (bw_keep R1'.toRlS rp1' hpl st2 hs) (bw_view R2.toRlS rp2.1) p2
  · exact p2.elim
theorem s_rng2 (hg : Gl X "range") (hm : X.mg "range" = none) (hp : plainE a = true) (ha : PE X a (tE c W (ev R ia))) (hp2 : plainE a2 = true) (hb : PE X a2 (tE c W (ev R ib))) : PI X tg (.Call (.Name "range" p) [a, a2] [] pos) (tI c W (evi R (.rng2 ia ib))) :=
  (pi_range2Z hg hm (pa2 hp ha hp2 hb) (star2 hp hp2) (star1 hp2)).weak fun σ H Q q => two_I q fun S e s m1 m2 x y Rr r1 r2 p => by
    unfold rng2K at p
    split at p
    · rename_i i j
      exact ⟨i, j, by rw [show x = V.int i from r1, show y = V.int j from r2], p S _ Rr (StE.refl _ _) fun ws S' s' _ _ _ => gives_rng⟩
    · exact p.elim

/-! ### for, while -/
variable {ws : List Nat} {n : Nat}
theorem s_for {iter : Expr} {body : List Stmt} {t : Tg} {it : OI.It} {ib : ISs} (hK : X.K = c.K) (hp : PassesOwn (model X.prog X.w) X.A X.env X.xe) (hc : X.calm = true) (hi : PI X tg iter (tI c W (evi R it))) (hg : PG X tg (gT X.K t)) (hw : ∀ i ∈ t.slots ++ wrs ib, i ∈ ws)
    (hb : PSs X body (tS c W (t.slots ++ wrs ib) (execs R n ib))) (hs : ∀ x, foldedSetIterable iter X.env x = pure x) : PS X (.For tg iter body [] pos) (tS c W ws (exec R n (.fors t it ib))) :=
  (ps_for hp hc hi hg hb hs).weak fun D σ H q => by
    obtain ⟨S, e, s, rfl, Rr, p⟩ := q
    refine ⟨S, e, s, rfl, Rr, PostS.bindE Rr.toRlS p fun x e1 s1 S1 J q1 R1 st1 rj p1 => ?_⟩
    split at p1
    · rename_i hap
      refine ⟨fun i m σ H => m = x.1.length - i ∧ i ≤ x.1.length ∧ ∃ S e s, S.H = H ∧ Rl c S e s σ ∧ StS (t.slots ++ wrs ib) S1 S s1 s ∧ PostS c W (t.slots ++ wrs ib) S s (forL x.2 s1 t (execs R n ib) (x.1.drop i) e s) D, ⟨x.1.length, rfl, Nat.zero_le _, S1, e1, s1, rfl, R1, StS.refl _ _ _, p1.mono hw⟩, ?_⟩
      rintro i m σ2 H2 ⟨rfl, hi, S2, e2, s2, rfl, R2, st2, p2⟩
      by_cases hlt : i < x.1.length
      · rw [List.drop_eq_getElem_cons hlt] at p2
        unfold forL at p2
        split at p2
        · rename_i hst
          have hg := rj _ S2 s2 st2 hst hap
          have hd : x.1[i]? = some x.1[i] := List.getElem?_eq_getElem hlt
          split at p2
          · exact p2.elim
          · rename_i e3 he3
            refine .inr ⟨hg.go i _ hd, fun σ' H' => (i + 1) ≤ x.1.length ∧ ∃ S e s, S.H = H' ∧ Rl c S e s σ' ∧ StS (t.slots ++ wrs ib) S1 S s1 s ∧ PostS c W (t.slots ++ wrs ib) S s (forL x.2 s1 t (execs R n ib) (x.1.drop (i + 1)) e s) D, fun σ' H' ⟨h1, h2⟩ => ⟨x.1.length - (i + 1), by omega, rfl, h1, h2⟩, fun y H' hy => ?_⟩
            obtain ⟨S3, al, hH, rd⟩ := hg.yld i _ s2 y H' hd R2.toRlS hy
            subst hH
            have R3 := al.rl R2
            refine tg_ok (m := .val x.1[i]) hK R3 rd he3 fun S4 σ4 hH4 R4 st4 _ => ?_
            have st14 := ((st2.trans R1.dom ((al.ste R2.dom s2).sts _)).trans R1.dom (st4.mono fun j hj => List.mem_append_left _ hj))
            have st24 : StS (t.slots ++ wrs ib) S2 S4 s2 s2 := ((al.ste R2.dom s2).sts _).trans R2.dom (st4.mono fun j hj => List.mem_append_left _ hj)
            have p4 := PostS.shift R2.toRlS st24 p2
            have p5 := PostS.bindS (N := fun σ' H' => (i + 1) ≤ x.1.length ∧ ∃ S e s, S.H = H' ∧ Rl c S e s σ' ∧ StS (t.slots ++ wrs ib) S1 S s1 s ∧ PostS c W (t.slots ++ wrs ib) S s (forL x.2 s1 t (execs R n ib) (x.1.drop (i + 1)) e s) D) R4.toRlS p4 fun e5 s5 S5 σ5 q5 R5 st5 p5 => ⟨hlt, S5, e5, s5, rfl, R5, st14.trans R1.dom st5, p5⟩
            refine ⟨S4, e3, s2, rfl, R4, ?_⟩
            revert p5
            generalize execs R n ib e3 s2 = r
            intro p5
            cases r with
            | ok f e' s' => cases f <;> exact p5
            | err k e' s' => exact p5
            | bad => exact p5
        · exact p2.elim
      · have hie : i = x.1.length := by omega
        subst hie
        rw [List.drop_length] at p2
        unfold forL at p2
        split at p2
        · rename_i hst
          have hg := rj _ S2 s2 st2 hst hap
          exact .inl ⟨hg.stop _ (Nat.le_refl _), p2 S2 σ2 R2 (StS.refl _ _ _)⟩
        · exact p2.elim
    · exact p1.elim
theorem s_while {t : Expr} {body : List Stmt} {it : IE} {ib : ISs} (hp : PassesOwn (model X.prog X.w) X.A X.env X.xe) (ht : PT X t (tT c W (ev R it))) (hb : PSs X body (tS c W ws (execs R n ib))) : PS X (.While t body [] pos) (tS c W ws (exec R n (.whil it ib))) :=
  (ps_while hp ht hb).weak fun D σ H q => by
    obtain ⟨S, e, s, rfl, Rr, p⟩ := q
    refine ⟨fun m σ H => ∃ S e s, S.H = H ∧ Rl c S e s σ ∧ PostS c W ws S s (whileL (testS (ev R it)) (execs R n ib) m e s) D, ⟨n, S, e, s, rfl, Rr, p⟩, ?_⟩
    rintro m σ2 H2 ⟨S2, e2, s2, rfl, R2, p2⟩
    cases m with
    | zero => exact p2.elim
    | succ m =>
      unfold whileL at p2
      refine test_okS R2 p2 fun S3 e3 s3 b R3 st3 p3 => ?_
      cases b with
      | true =>
        have p3 : PostS c W ws S3 s3 ((execs R n ib e3 s3).bind fun f e s => match f with
          | .nx => whileL (testS (ev R it)) (execs R n ib) m e s
          | .ret m => .ok (.ret m) e s) D := p3
        rw [if_pos rfl]
        refine ⟨fun σ' H' => ∃ S e s, S.H = H' ∧ Rl c S e s σ' ∧ PostS c W ws S s (whileL (testS (ev R it)) (execs R n ib) m e s) D, fun σ' H' h => ⟨m, Nat.lt_succ_self m, h⟩, ?_⟩
        have p5 := PostS.bindS (N := fun σ' H' => ∃ S e s, S.H = H' ∧ Rl c S e s σ' ∧ PostS c W ws S s (whileL (testS (ev R it)) (execs R n ib) m e s) D) R3.toRlS p3 fun e5 s5 S5 σ5 q5 R5 st5 p5 => ⟨S5, e5, s5, rfl, R5, p5⟩
        refine ⟨S3, e3, s3, rfl, R3, ?_⟩
        revert p5
        generalize execs R n ib e3 s3 = r
        intro p5
        cases r with
        | ok f e' s' => cases f <;> exact p5
        | err k e' s' => exact p5
        | bad => exact p5
      | false =>
        rw [if_neg Bool.false_ne_true]
        exact p3 S3 σ2 R3 (StS.refl _ _ _)
end
end OI

/-! OIs: list comprehensions. -/
namespace OI
open PySem PySem.Spec PyProof.Rows L2
/-- no exception leaves -/
abbrev WN : WX := fun _ _ _ _ => False
section
variable {c : Cn} {W : WX} {σ σ2 : L2.St} {S S1 : Wd} {s s1 : Store} {e : OI.Env}
theorem quiet_ok {α β γ δ : Type} {r : Res α} {k : α → OI.Env → Store → Res γ} {rep : Wd → Store → α → β → Prop} {rep' : Wd → Store → γ → δ → Prop} {Q : δ → Hp → Prop} {G : β → Hp → Prop} (h : PostG c W σ S1 s1 ((quiet r).bind k) rep' Q)
    (g : ∀ x e2 s2 S2 y, r = .ok x e2 s2 → Rl c S2 e2 s2 σ2 → StE S S2 s s2 → rep S2 s2 x y → PostG c W σ S1 s1 (k x e2 s2) rep' Q → G y S2.H) : PostG c WN σ2 S s r rep G := by
  cases r with
  | ok x e2 s2 => exact fun S2 y R2 st rp => g x e2 s2 S2 y rfl R2 st rp h
  | err k' e2 s2 => exact h.elim
  | bad => exact h.elim
/-- the names of a block are forgotten -/
theorem wipe_len (e : OI.Env) : ∀ own : List Nat, (OI.wipe e own).length = e.length
  | [] => rfl
  | i :: own => by unfold OI.wipe; rw [List.length_set, wipe_len e own]
theorem wipe_get {i : Nat} {m : M} : ∀ {own : List Nat}, (OI.wipe e own)[i]? = some (some m) → e[i]? = some (some m) ∧ i ∉ own
  | [], h => ⟨h, by simp⟩
  | j :: own, h => by
    unfold OI.wipe at h
    by_cases z : j = i
    · subst z
      rw [List.getElem?_set] at h
      split at h
      · split at h <;> cases h
      · rename_i z; exact absurd rfl z
    · rw [List.getElem?_set_ne z] at h
      obtain ⟨h1, h2⟩ := wipe_get h
      exact ⟨h1, fun w => by
        rw [List.mem_cons] at w
        rcases w with w | w
        · exact z w.symm
        · exact h2 w⟩
theorem wipeS_get {i : Nat} {v : V} : ∀ {own : List Nat}, i ∉ own → σ[i]? = some (some v) → (L2.wipe σ own)[i]? = some (some v)
  | [], _, h => h
  | j :: own, hn, h => by
    rw [List.mem_cons, not_or] at hn
    unfold L2.wipe
    rw [List.getElem?_set_ne (fun z => hn.1 z.symm)]
    exact wipeS_get hn.2 h
theorem Rl.wiped (R : Rl c S e s σ2) {own : List Nat} (h : L2.wipe σ2 own = L2.wipe σ own) : Rl c S (OI.wipe e own) s (L2.wipe σ own) where
  toRlS := R.toRlS
  elen := by rw [wipe_len, R.elen, ← h, L2.wipe_length]
  slot := fun i m hi => by
    obtain ⟨h1, h2⟩ := wipe_get hi
    obtain ⟨v, h3, h4⟩ := R.slot i m h1
    exact ⟨v, by rw [← h]; exact wipeS_get h2 h3, h4⟩
theorem back_get {e0 : OI.Env} {i : Nat} {m : M} : ∀ {own : List Nat}, (back e0 e own)[i]? = some (some m) → (i ∈ own ∧ e0[i]? = some (some m)) ∨ (i ∉ own ∧ e[i]? = some (some m))
  | [], h => .inr ⟨by simp, h⟩
  | j :: own, h => by
    unfold back at h
    by_cases z : j = i
    · subst z
      rw [List.getElem?_set] at h
      rw [if_pos rfl] at h
      split at h
      · have h := Option.some.inj h
        refine .inl ⟨List.mem_cons_self .., ?_⟩
        rw [List.getD_eq_getElem?_getD] at h
        cases q : e0[j]? with
        | none => rw [q] at h; cases h
        | some o => rw [q] at h; rw [show o = some m from h]
      · cases h
    · rw [List.getElem?_set_ne z] at h
      rcases back_get h with ⟨h1, h2⟩ | ⟨h1, h2⟩
      · exact .inl ⟨List.mem_cons_of_mem _ h1, h2⟩
      · exact .inr ⟨fun w => by
          rw [List.mem_cons] at w
          rcases w with w | w
          · exact z w.symm
          · exact h1 w, h2⟩
theorem back_len (e0 e : OI.Env) : ∀ own : List Nat, (back e0 e own).length = e.length
  | [] => rfl
  | i :: own => by unfold back; rw [List.length_set, back_len e0 e own]
/-- behind the block -/
theorem Rl.backed {e1 : OI.Env} {own : List Nat} (R1 : Rl c S1 e1 s1 σ) (hw : wipeOk e1 own = true) (f : Fr S1 S) (R : Rl c S e s (L2.wipe σ own)) : Rl c S (back e1 e own) s σ where
  toRlS := R.toRlS
  elen := by rw [back_len, R.elen, L2.wipe_length]
  slot := fun i m hi => by
    rcases back_get hi with ⟨h1, h2⟩ | ⟨h1, h2⟩
    · obtain ⟨v, h3, h4⟩ := R1.slot i m h2
      refine ⟨v, h3, ?_⟩
      unfold wipeOk at hw
      rw [List.all_eq_true] at hw
      have := hw i h1
      rw [h2] at this
      cases m with
      | val d => exact RepD.mono f h4
      | ol xs => cases this
      | od t kvs => cases this
    · obtain ⟨v, h3, h4⟩ := R.slot i m h2
      exact ⟨v, (L2.wipe_some h3).1, h4⟩
/-- the list that is made, laid ahead of the walk -/
theorem lay_oth {p : Addr} {o : HO} (R : Rl c S e s σ) (hp : S.H p = none) (ho : HLo o) : Rl c (S.put p o (some .oth)) e s σ ∧ StE S (S.put p o (some .oth)) s s := by
  have al : Al c S (S.put p o (some .tmp)) := Al.lay R.toRlS hp (.inr rfl) ho
  have R2 := al.rl R
  have ho2 : (S.put p o (some .tmp)).ow p = some .tmp := put_ow
  have e2 : (S.put p o (some .tmp)).lab p (some .oth) = S.put p o (some .oth) := by
    unfold Wd.lab Wd.put
    congr 1
    funext a
    by_cases z : a = p
    · rw [if_pos z, if_pos z]
    · rw [if_neg z, if_neg z]
      exact if_neg z
  rw [← e2]
  exact ⟨lab_tmp R2 ho2, (al.ste R.dom s).trans R.dom (lab_ste ho2)⟩
/-- .. and handed on when it is done -/
theorem oth_tmp {p : Addr} (R0 : RlS c S1 s1) (hp : S1.H p = none) {S2 : Wd} (R : Rl c S e s σ) (st : StE S1 S s1 s) (ho : S.ow p = some .oth) : Rl c (S.lab p (some .tmp)) e s σ ∧ StE S1 (S.lab p (some .tmp)) s1 s := by
  have ne : ∀ {a : Addr} {x : Pl}, S.ow a = some x → x ≠ .oth → a ≠ p := fun h1 h2 z => by subst z; rw [ho] at h1; cases h1; exact h2 rfl
  have old : ∀ {a : Addr}, S1.H a ≠ none → a ≠ p := fun h z => by subst z; exact h hp
  have oldq : ∀ {a : Addr} {q : Pl}, S1.ow a = some q → a ≠ p := fun h => old (R0.dom _ (by rw [h]; simp)).ne
  refine ⟨R.step (lab_fr (by rw [ho]; simp)) (fun a x n hx hn => ⟨rfl, by rw [lab_ne (ne hx (fun z => by subst z; cases hn))]; exact hx⟩) (fun a i hx => ⟨rfl, by rw [lab_ne (ne hx (fun z => nomatch z))]; exact hx⟩) rfl (lab_dom R.dom (by rw [ho]; simp)) (lab_src R.src (by intro x hx; cases hx; rfl)) R.hl, ?_⟩
  refine ⟨⟨⟨fun a o h1 h2 h3 => ?_, st.am⟩, st.ver, fun n en h1 h2 a q hq hn => ?_, fun a hq => ?_⟩, fun a i hq => ?_⟩
  · obtain ⟨x, y⟩ := st.keep a o h1 h2 h3
    exact ⟨x, by rw [lab_ne (old (by rw [h1]; simp))]; exact y⟩
  · obtain ⟨x, y⟩ := st.ent n en h1 h2 a q hq hn
    exact ⟨x, by rw [lab_ne (oldq hq)]; exact y⟩
  · obtain ⟨x, y⟩ := st.oth a hq
    exact ⟨x, by rw [lab_ne (oldq hq)]; exact y⟩
  · obtain ⟨x, y⟩ := st.slot a i hq
    exact ⟨x, by rw [lab_ne (oldq hq)]; exact y⟩
/-- it is written -/
theorem oth_upd {p : Addr} {o : HO} (R : Rl c S e s σ) (h : S.ow p = some .oth) (hpl : Pln p (S.H p)) (ho : HLo o) : Rl c (S.upd p o) e s σ ∧ Fr S (S.upd p o) ∧ ∀ {S1 : Wd} {s1 : Store}, RlS c S1 s1 → S1.H p = none → StE S1 S s1 s → StE S1 (S.upd p o) s1 s := by
  have hH : ∀ {b : Addr}, b ≠ p → (S.upd p o).H b = S.H b := fun hb => upd_ne hb
  have ne : ∀ {b : Addr} {q : Pl}, S.ow b = some q → q ≠ .oth → b ≠ p := fun h1 h2 z => by subst z; rw [h] at h1; cases h1; exact h2 rfl
  have fr : Fr S (S.upd p o) := ⟨fun b u h1 h2 _ => ⟨by rw [hH (fun z => by subst z; rw [h] at h2; cases h2)]; exact h1, h2⟩, [], by simp [Wd.upd]⟩
  refine ⟨R.step fr (fun b q n h1 h2 => ⟨hH (ne h1 fun z => by subst z; cases h2), h1⟩) (fun b i h1 => ⟨hH (ne h1 fun z => nomatch z), h1⟩) rfl (fun b hb => ?_) R.src (R.hl.put hpl ho), fr, fun {S1 s1} R0 hp st => ?_⟩
  · by_cases z : b = p
    · subst z
      exact dm_of (show L2.upd S.H b o b = some o from upd_same) ho
    · rw [hH z]
      exact R.dom b hb
  · have old : ∀ {a : Addr}, S1.H a ≠ none → a ≠ p := fun h1 z => by subst z; exact h1 hp
    have oldq : ∀ {a : Addr} {q : Pl}, S1.ow a = some q → a ≠ p := fun h1 => old (R0.dom _ (by rw [h1]; simp)).ne
    refine ⟨⟨⟨fun a u h1 h2 h3 => ?_, st.am⟩, st.ver, fun n en h1 h2 a q hq hn => ?_, fun a hq => ?_⟩, fun a i hq => ?_⟩
    · obtain ⟨x, y⟩ := st.keep a u h1 h2 h3
      exact ⟨by rw [hH (old (by rw [h1]; simp))]; exact x, y⟩
    · obtain ⟨x, y⟩ := st.ent n en h1 h2 a q hq hn
      exact ⟨by rw [hH (oldq hq)]; exact x, y⟩
    · obtain ⟨x, y⟩ := st.oth a hq
      exact ⟨by rw [hH (oldq hq)]; exact x, y⟩
    · obtain ⟨x, y⟩ := st.slot a i hq
      exact ⟨by rw [hH (oldq hq)]; exact x, by rw [hH (oldq hq)]; exact y⟩
theorem tg_val {K : PySem.W.Frag} (hK : K = c.K) {t : Tg} {d : D} {v : V} {e2 : OI.Env} {Q : L2.St → Hp → Prop} (R : Rl c S e s σ) (r : RepD c S d v) (h : store t (.val d) e = some e2) (q : ∀ σ', Rl c S e2 s σ' → (∀ own : List Nat, (∀ i ∈ t.slots, i ∈ own) → L2.wipe σ' own = L2.wipe σ own) → Q σ' S.H) : gT K t v σ S.H Q := by
  cases t with
  | one i =>
    unfold store at h
    dsimp only at h
    split at h
    · rename_i hi
      cases h
      exact q _ (set_val R hi r) fun own ho => wipe_set (ho i (List.mem_cons_self ..))
    · cases h
  | many is =>
    unfold store at h
    dsimp only at h
    split at h
    · rename_i ds hd
      cases hd
      obtain ⟨p, vs, rfl, hf, rd⟩ := r
      obtain ⟨hl, hq⟩ := names_ok R rd h fun σ' R' hw => q σ' R' hw
      rw [hK]
      exact ⟨p, vs, rfl, hf.sq, hl, hq⟩
    · cases h
theorem wipe_wipe : ∀ (own : List Nat), L2.wipe (L2.wipe σ own) own = L2.wipe σ own := fun own => by
  have : ∀ (l : List Nat) (ρ : L2.St), (∀ i ∈ l, i ∈ own) → L2.wipe (L2.wipe ρ l) own = L2.wipe ρ own := by
    intro l
    induction l with
    | nil => intro ρ _; rfl
    | cons j l ih =>
      intro ρ h
      show L2.wipe ((L2.wipe ρ l).set j none) own = _
      rw [wipe_set (h j (List.mem_cons_self ..)), ih ρ fun i hi => h i (List.mem_cons_of_mem _ hi)]
  exact this own σ fun i hi => hi
/-- an element's value, no exception leaving -/
theorem valD_quiet {fa : OI.Env → Store → Res (M × Pl)} {α γ : Type} {k : D → OI.Env → Store → Res α} {rep' : Wd → Store → α → γ → Prop} {Q : γ → Hp → Prop} {rest : V → Hp → Prop} (Rr : Rl c S e s σ2)
    (h : PostG c W σ S1 s1 ((quiet (valD fa e s)).bind k) rep' Q) (hr : ∀ S2 e2 s2 d v, Rl c S2 e2 s2 σ2 → StE S S2 s s2 → RepD c S2 d v → PostG c W σ S1 s1 (k d e2 s2) rep' Q → rest v S2.H) : tE c WN fa σ2 S.H rest := by
  refine ⟨S, e, s, rfl, Rr, ?_⟩
  unfold valD at h
  cases w : fa e s with
  | ok x e1 s3 =>
    rw [w] at h
    intro S3 v R3 st3 rp3
    have h : PostG c W σ S1 s1 ((quiet ((vl x.1 x.2 e1 s3).bind fun m e2 s2 => .ok m.frz e2 s2)).bind k) rep' Q := h
    rcases vl_cases R3 rp3 with hb | ⟨S4, m, e2, he, R4, st4, hH, rp4⟩
    · rw [hb] at h
      exact h.elim
    · rw [he] at h
      obtain ⟨S5, R5, hH5, hd, st5⟩ := frz_ste R4 rp4
      rw [← hH, ← hH5]
      exact hr S5 e2 s3 m.frz v R5 ((st3.trans Rr.dom st4).trans Rr.dom st5) hd h
  | err k' e1 s3 => rw [w] at h; exact h.elim
  | bad => rw [w] at h; exact h.elim
end
section
variable {X : Cx} {c : Cn} {W : WX} {R : Runs}
abbrev tC (c : Cn) (W : WX) (f : OI.Env → Store → Res Bool) : TT := tG c W f fun _ => rB
theorem s_ifs0 : PTs X [] (tC c WN (evc R .no)) := ⟨fun pins s σ H Q I h => by
  obtain ⟨S, e, s', rfl, Rr, p⟩ := h
  exact pts_nil.run pins s σ S.H Q I (p S true Rr (StE.refl _ _) rfl)⟩
theorem s_ifs1 {a : Expr} {ia : IE} (h : PT X a (tT c WN (ev R ia))) : PTs X [a] (tC c WN (evc R (.yes ia))) := ⟨fun pins s σ H Q I q => (pts_one h).run pins s σ H Q I q⟩
theorem lc_weak {elt : IE} {t : Tg} {it : OI.It} {co : IO} {own : List Nat} {K : PySem.W.Frag} (hK : K = c.K) (ho : ∀ i ∈ t.slots, i ∈ own) {σ : L2.St} {H : Hp} {Q : VK} (q : tE c W (ev R (.lc elt t it co own)) σ H Q) :
    tLc (tI c W (evi R it)) (gT K t) (tC c WN (evc R co)) (tE c WN (ev R elt)) own σ H Q := by
  obtain ⟨S, e, s, rfl, Rr, p⟩ := q
  refine ⟨S, e, s, rfl, Rr, PostG.bind Rr.toRlS p fun x e1 s1 S1 J q1 R1 st1 rj p1 => ?_⟩
  unfold lcK at p1
  split at p1
  · rename_i hw
    obtain ⟨hw, hlim⟩ := hw
    intro Dd hD
    obtain ⟨R2, st2⟩ := lay_oth R1 hD (HLo.lst (xs := []) (Nat.zero_le _))
    refine ⟨fun i m H => m = x.1.length - i ∧ i ≤ x.1.length ∧ ∃ S e s acc vs, S.H = H ∧ Rl c S e s (L2.wipe σ own) ∧ StE S1 S s1 s ∧ S.ow Dd = some .oth ∧ S.H Dd = some (.lst vs) ∧ RepDs c S acc vs ∧ acc.length ≤ i ∧
      PostG c W σ S1 s1 ((lcL x.2 s1 own t (evc R co) (valD (ev R elt)) (x.1.drop i) acc e s).bind (lcEnd e1 own)) (rM c σ) Q,
      ⟨x.1.length, rfl, Nat.zero_le _, S1.put Dd (.lst []) (some .oth), OI.wipe e1 own, s1, [], [], rfl, R2.wiped rfl, st2, put_ow, put_H, rfl, Nat.zero_le _, p1⟩, ?_⟩
    rintro i m H2 ⟨rfl, hi, S2, e2, s2, acc, vs, rfl, R2, st2, hod, hHd, racc, hacc, p2⟩
    have walk : still x.2 s1 s2 = true → WalksAt c J x.1 S2 := fun k => rj [] S2 s2 (st2.sts []) k (by simp [apart]; intro w _; cases w <;> simp)
    by_cases hlt : i < x.1.length
    · rw [List.drop_eq_getElem_cons hlt] at p2
      unfold lcL at p2
      split at p2
      · rename_i hst
        have hg := walk hst
        have hd : x.1[i]? = some x.1[i] := List.getElem?_eq_getElem hlt
        split at p2
        · exact p2.elim
        · rename_i e3 he3
          rw [Res.bind_bind] at p2
          refine .inr ⟨hg.go i _ hd, fun H' => (i + 1) ≤ x.1.length ∧ ∃ S e s acc vs, S.H = H' ∧ Rl c S e s (L2.wipe σ own) ∧ StE S1 S s1 s ∧ S.ow Dd = some .oth ∧ S.H Dd = some (.lst vs) ∧ RepDs c S acc vs ∧ acc.length ≤ i + 1 ∧
            PostG c W σ S1 s1 ((lcL x.2 s1 own t (evc R co) (valD (ev R elt)) (x.1.drop (i + 1)) acc e s).bind (lcEnd e1 own)) (rM c σ) Q, fun H' ⟨h1, h2⟩ => ⟨x.1.length - (i + 1), by omega, rfl, h1, h2⟩, fun y H' hy => ?_⟩
          obtain ⟨S3, al, hH, rd⟩ := hg.yld i _ s2 y H' hd R2.toRlS hy
          subst hH
          have R3 := al.rl R2
          have a3 := al.at R2.dom hod
          have st3 := st2.trans R1.dom (al.ste R2.dom s2)
          refine tg_val hK R3 rd he3 fun σ4 R4 hwp => ?_
          have hwp := (hwp own ho).trans (wipe_wipe own)
          refine ⟨hwp, S3, e3, s2, rfl, R4, quiet_ok p2 fun b e5 s5 S5 b' q5 R5 st5 rb p5 => ?_⟩
          cases rb
          have a5 := st5.oth Dd a3.2
          have st15 := st3.trans R1.dom st5
          have r5 : RepDs c S5 acc vs := (racc.mono al.fr).mono st5.toFr
          have h5 : S5.H Dd = some (.lst vs) := by rw [a5.1, a3.1]; exact hHd
          cases b with
          | true =>
            rw [if_pos rfl] at p5 ⊢
            rw [Res.bind_bind] at p5
            refine valD_quiet R5 p5 fun S6 e6 s6 d v R6 st6 rd6 p6 => ?_
            have a6 := st6.oth Dd a5.2
            have h6 : S6.H Dd = some (.lst vs) := by rw [a6.1]; exact h5
            have hl := racc.length
            have hlen : (vs ++ [v]).length ≤ 16777216 := by
              rw [List.length_append, List.length_singleton, hl]
              have : x.1.length ≤ 16777216 := hlim
              omega
            obtain ⟨R7, fr7, st7⟩ := oth_upd R6 a6.2 (pln_lst h6) (HLo.lst hlen)
            refine ⟨vs, h6, ?_, hlt, S6.upd Dd (.lst (vs ++ [v])), _, s6, acc ++ [d], vs ++ [v], rfl, R7.wiped hwp, st7 R1.toRlS hD (st15.trans R1.dom st6), a6.2, upd_same, ((r5.mono st6.toFr).mono fr7).append ⟨v, [], rfl, rd6.mono fr7, rfl⟩, ?_, p6⟩
            · rw [hl, sizeLine_eq]
              have : x.1.length ≤ 16777216 := hlim
              omega
            · rw [List.length_append, List.length_singleton]
              omega
          | false =>
            rw [if_neg Bool.false_ne_true] at p5 ⊢
            exact ⟨hlt, S5, _, s5, acc, vs, rfl, R5.wiped hwp, st15, a5.2, h5, r5, by omega, p5⟩
      · exact p2.elim
    · have hie : i = x.1.length := by omega
      subst hie
      rw [List.drop_length] at p2
      unfold lcL at p2
      split at p2
      · rename_i hst
        have hg := walk hst
        refine .inl ⟨hg.stop _ (Nat.le_refl _), ?_⟩
        have Rb := R1.backed hw st2.toFr R2
        obtain ⟨R3, st3⟩ := oth_tmp (S2 := S2) R1.toRlS hD Rb st2 hod
        exact p2 (S2.lab Dd (some .tmp)) (.ref Dd) R3 st3 ⟨⟨Dd, vs, rfl, hHd, lab_same, racc.mono (lab_fr (by rw [hod]; simp))⟩, trivial⟩
      · exact p2.elim
  · exact p1.elim
end
end OI

/-! OIt: a container shared; a def by its body. -/
namespace OI
open PySem PySem.Spec PyProof.Rows L2
section
variable {c : Cn} {S S1 : Wd} {s : Store} {e : OI.Env} {σ : L2.St}
/-- one more object of the store -/
theorem grow {p : Addr} {o : SObj} (R : Rl c S e s σ) (h : S.ow p = some .tmp) (ho : ∀ S', S'.H = S.H → Fr S S' → RepO c S' s.length p o) : ∃ S', S'.H = S.H ∧ S'.am[s.length]? = some p ∧ Rl c S' e (s ++ [⟨o, 0⟩]) σ ∧ StE S S' s (s ++ [⟨o, 0⟩]) := by
  have len := R.len
  refine ⟨⟨S.am ++ [p], fun a => if a = p then some (.obj s.length) else S.ow a, S.H⟩, rfl, ?_, ?_⟩
  · show (S.am ++ [p])[s.length]? = some p
    rw [← len]
    simp
  have owp : ∀ {a : Addr}, a ≠ p → (if a = p then some (Pl.obj s.length) else S.ow a) = S.ow a := fun h => if_neg h
  have ne : ∀ {a : Addr} {x : Pl}, S.ow a = some x → x ≠ .tmp → a ≠ p := fun h1 h2 z => by subst z; rw [h] at h1; cases h1; exact h2 rfl
  have fr : Fr S ⟨S.am ++ [p], fun a => if a = p then some (.obj s.length) else S.ow a, S.H⟩ := ⟨fun a u h1 h2 _ => ⟨h1, (owp (fun z => by subst z; rw [h] at h2; cases h2)).trans h2⟩, [p], rfl⟩
  have ver : VerS s (s ++ [⟨o, 0⟩]) := fun n en hn => ⟨en, by rw [List.getElem?_append_left (List.getElem?_eq_some_iff.mp hn).1]; exact hn, Nat.le_refl _, fun _ => rfl⟩
  refine ⟨⟨⟨by show (S.am ++ [p]).length = _; rw [List.length_append, List.length_append, len]; rfl, fun n en hn => ?_, fun a ha => ?_, fun a q n h1 h2 => ?_, R.hl⟩, R.elen, fun i m hi => ?_⟩, ⟨⟨fr, ver, fun n en h1 h2 a q hq hn => ⟨rfl, (owp (ne hq (fun z => by subst z; cases hn))).trans hq⟩, fun a hq => ⟨rfl, (owp (ne hq (fun z => nomatch z))).trans hq⟩⟩, fun a i hq => ⟨rfl, .inl ((owp (ne hq (fun z => nomatch z))).trans hq)⟩⟩⟩
  · by_cases hlt : n < s.length
    · rw [List.getElem?_append_left hlt] at hn
      obtain ⟨a, h1, h2, h3⟩ := R.obj n en hn
      refine ⟨a, fr.amAt h1, (owp (ne h2 (fun z => nomatch z))).trans h2, h3.step fr rfl fun b g hb => ⟨rfl, (owp (ne hb (fun z => nomatch z))).trans hb⟩⟩
    · have hlt2 := (List.getElem?_eq_some_iff.mp hn).1
      rw [List.length_append, List.length_singleton] at hlt2
      have : n = s.length := by omega
      subst this
      rw [List.getElem?_append_right (Nat.le_refl _), Nat.sub_self] at hn
      cases hn
      refine ⟨p, ?_, if_pos rfl, ho _ rfl fr⟩
      show (S.am ++ [p])[s.length]? = some p
      rw [← len]
      simp
  · by_cases z : a = p
    · subst z
      exact R.dom a (by rw [h]; simp)
    · have ha : (if a = p then some (Pl.obj s.length) else S.ow a) ≠ none := ha
      rw [owp z] at ha
      exact R.dom a ha
  · have h1 : (if a = p then some (Pl.obj s.length) else S.ow a) = some q := h1
    rw [List.length_append, List.length_singleton]
    by_cases z : a = p
    · rw [if_pos z] at h1
      cases h1
      cases h2
      omega
    · rw [owp z] at h1
      have := R.src a q n h1 h2
      omega
  · obtain ⟨v, h1, h2⟩ := R.slot i m hi
    exact ⟨v, h1, h2.step fr fun b hb => ⟨rfl, (owp (ne hb (fun z => nomatch z))).trans hb⟩⟩
variable {X : Cx} {W : WX} {R : Runs} {a : Expr} {ia : IE}
theorem share_weak {σ : L2.St} {H : Hp} {Q : VK} (q : tE c W (ev R (.share ia)) σ H Q) : tE c W (ev R ia) σ H Q := by
  obtain ⟨S, e, s, rfl, Rr, p⟩ := q
  refine ⟨S, e, s, rfl, Rr, PostG.bind Rr.toRlS p fun x e1 s1 S1 v q1 R1 st1 rp1 p1 => ?_⟩
  obtain ⟨m, pl⟩ := x
  obtain ⟨r1, r2⟩ := rp1
  unfold shareK at p1
  cases pl with
  | tmp =>
    cases m with
    | val d => exact p1 S1 v R1 (StE.refl _ _) ⟨r1, trivial⟩
    | ol xs =>
      obtain ⟨p, vs, ev, h1, h2, h3⟩ := r1
      obtain ⟨S', hH, ha, R', st⟩ := grow (o := .lst xs) R1 h2 fun S' hH f => ⟨vs, by rw [hH]; exact h1, h3.mono f⟩
      have := p1 S' v R' st ⟨⟨p, ev, ha⟩, trivial⟩
      rw [hH] at this
      exact this
    | od t kvs =>
      obtain ⟨p, vs, ev, h1, h2, h3⟩ := r1
      obtain ⟨S', hH, ha, R', st⟩ := grow (o := .dic t kvs) R1 h2 fun S' hH f => ⟨vs, by rw [hH]; exact h1, h3.mono f⟩
      have := p1 S' v R' st ⟨⟨p, ev, ha⟩, trivial⟩
      rw [hH] at this
      exact this
  | _ => exact p1.elim
theorem s_share (ha : PE X a (tE c W (ev R ia))) : PE X a (tE c W (ev R (.share ia))) := ha.weak fun σ H Q q => share_weak q
end
end OI

/-! OIu: a product; a def by its body. -/
namespace OI
open PySem PySem.Spec PyProof.Rows L2
section
variable {X : Cx} {c : Cn}
theorem len_rep {α : Type} (xs : List α) : ∀ k : Nat, (List.replicate k xs).flatten.length = k * xs.length
  | 0 => by simp
  | k + 1 => by rw [List.replicate_succ, List.flatten_cons, List.length_append, len_rep xs k, Nat.succ_mul, Nat.add_comm]
theorem v_mul (hK : X.K = c.K) : OpR X (binaryOp .Mult) (R2of c (bin .mul)) := by
  intro pins sh σ H x y v u Q I rx ry h
  obtain ⟨S, s, m1, m2, m, rfl, Rr, r1, r2, hm, q⟩ := h
  have lst : ∀ {xs : List D} {k : Int}, m1.lst1? = some xs → m2 = .val (.int k) → (0 ≤ k ∧ k < 2 ^ 62 ∧ xs.length * k.toNat ≤ LIM) → m = .ol (List.replicate k.toNat xs).flatten → wpAny (model X.prog X.w) X.A (binaryOp .Mult v u) (EP X pins σ Q) X.xe sh := fun {xs k} hx e2 hk em => by
    subst e2 em
    obtain ⟨p, vs, rfl, hl, rd⟩ := lst1_of hx r1
    obtain ⟨k1, k2, k3⟩ := hk
    have hv := rd.length
    have hlen : (List.replicate k.toNat vs).flatten.length ≤ 16777216 := by
      rw [len_rep, Nat.mul_comm, hv]
      exact k3
    refine op_rep pins sh σ S.H _ y v u Q I rx ry ⟨p, k, vs, rfl, r2, hl, by omega, by omega, by rw [hv]; exact lim_le k3, fun a na => ?_⟩
    obtain ⟨S', al, hH, rp⟩ := new_lst Rr na (rd.flatten k.toNat) hlen
    rw [← hH]
    exact q S' _ al rp
  replace hm : mulM m1 m2 = some m := hm
  unfold mulM at hm
  split at hm
  · rename_i i j
    split at hm
    · rename_i hc
      cases hm
      refine op_mul pins sh σ S.H x y v u Q I rx ry ⟨i, j, r1, r2, hc, q S _ (Al.refl Rr) rfl⟩
    · cases hm
  · rename_i xs k
    split at hm
    · rename_i hk
      cases hm
      obtain ⟨k1, k2, k3, k4⟩ := hk
      obtain ⟨p, vs, rfl, hf, rd⟩ := r1
      have hv := rd.length
      have hne : vs ≠ [] := fun z => by
        rw [z] at hv
        simp at hv
        omega
      have hlen : (List.replicate k.toNat vs).flatten.length ≤ 16777216 := by
        rw [len_rep, hv]
        have : k.toNat ≤ 1000 := by omega
        calc k.toNat * xs.length ≤ 1000 * 1000 := Nat.mul_le_mul this k4
          _ ≤ 16777216 := by omega
      refine op_repT pins sh σ S.H _ y v u Q I rx ry ⟨p, k, vs, rfl, r2, by rw [hK]; exact hf.sq, hne, k1, k2, by rw [hv]; exact k4, fun a na => ?_⟩
      obtain ⟨S', al, hH, rp⟩ := new_tup Rr na (rd.flatten k.toNat) hlen
      rw [← hH]
      exact q S' _ al rp
    · cases hm
  · rename_i k hx hy
    split at hm
    · rename_i xs hl
      split at hm
      · rename_i hk
        cases hm
        exact lst hl rfl hk rfl
      · cases hm
    · cases hm
  · cases hm
/-- a test of what is none of the special forms -/
def plainT : Expr → Bool
  | .UnaryOp .Not _ _ => false
  | .BoolOp _ _ _ => false
  | .IfExp _ _ _ _ => false
  | .Compare _ _ _ _ => false
  | _ => true
theorem plain_test {a : Expr} (h : plainT a = true) (env : PySem.Env) (whole : Sem Value) : isTrue a env whole = (do let v ← whole; standAt a.pos; holding [v] (truthy v)) := by
  cases a with
  | UnaryOp op _ _ => cases op <;> first | rfl | cases h
  | BoolOp => cases h
  | IfExp => cases h
  | Compare => cases h
  | _ => rfl
theorem noBool {a : Expr} (h : plainT a = true) {W : WX} {f : OI.Env → Store → Res (M × Pl)} : ∀ op vs pos, a = .BoolOp op vs pos → PW X a (tT c W f) := fun op vs pos e => by subst e; cases h
theorem se_of {a : Expr} {W : WX} {f : OI.Env → Store → Res (M × Pl)} (h : plainT a = true) (he : PE X a (tE c W f)) : SE X c W a f := ⟨he, pt_of_pe he fun w => plain_test h X.env w, noBool h⟩
end

/-! ### what a call leaves -/
section
variable {c : Cn}
mutual
theorem RepD.trunc {S' S'' : Wd} {n : Nat} (hH : S''.H = S'.H) (how : ∀ a, S'.ow a = none → S''.ow a = none) (ham : ∀ k, k < n → S''.am[k]? = S'.am[k]?) : ∀ {d : D} {v : V}, D.locsLt n d = true → RepD c S' d v → RepD c S'' d v
  | .non, _, _, h => h
  | .bl _, _, _, h => h
  | .int _, _, _, h => h
  | .str _, _, _, h => h
  | .tup xs, _, hl, ⟨p, vs, e, h1, h2⟩ => ⟨p, vs, e, h1.elim (fun h => .inl ⟨by rw [hH]; exact h.1, how _ h.2⟩) .inr, RepDs.trunc hH how ham hl h2⟩
  | .lst xs, _, hl, ⟨p, vs, e, h1, h2, h3⟩ => ⟨p, vs, e, by rw [hH]; exact h1, how _ h2, RepDs.trunc hH how ham hl h3⟩
  | .dic t kvs, _, hl, ⟨p, vs, e, h1, h2, h3⟩ => ⟨p, vs, e, by rw [hH]; exact h1, how _ h2, RepKs.trunc hH how ham hl h3⟩
  | .scr ns, _, _, ⟨p, e, h⟩ => ⟨p, e, h.elim (fun h => .inl ⟨by rw [hH]; exact h.1, how _ h.2⟩) .inr⟩
  | .loc k, _, hl, ⟨a, e, h⟩ => ⟨a, e, by rw [ham k (of_decide_eq_true hl)]; exact h⟩
  | .exn _, _, _, h => h
  | .lam _ _, _, hl, ⟨L, e, h1, h2, h3, h4, h5⟩ => ⟨L, e, h1, h2, by rw [hH]; exact h3, how _ h4, RepDs.trunc hH how ham hl h5⟩
theorem RepDs.trunc {S' S'' : Wd} {n : Nat} (hH : S''.H = S'.H) (how : ∀ a, S'.ow a = none → S''.ow a = none) (ham : ∀ k, k < n → S''.am[k]? = S'.am[k]?) : ∀ {d : List D} {v : List V}, D.locsLts n d = true → RepDs c S' d v → RepDs c S'' d v
  | [], _, _, h => h
  | d :: ds, _, hl, ⟨v, r, e, h1, h2⟩ => by
    unfold D.locsLts at hl
    rw [Bool.and_eq_true] at hl
    exact ⟨v, r, e, RepD.trunc hH how ham hl.1 h1, RepDs.trunc hH how ham hl.2 h2⟩
theorem RepKs.trunc {S' S'' : Wd} {n : Nat} (hH : S''.H = S'.H) (how : ∀ a, S'.ow a = none → S''.ow a = none) (ham : ∀ k, k < n → S''.am[k]? = S'.am[k]?) : ∀ {t : Bool} {d : List (D × D)} {v : List V}, D.locsLtk n d = true → RepKs c S' t d v → RepKs c S'' t d v
  | _, [], _, _, h => h
  | false, (k, d) :: ds, _, hl, ⟨h0, v, r, e, h1, h2⟩ => by
    unfold D.locsLtk at hl
    rw [Bool.and_eq_true, Bool.and_eq_true] at hl
    exact ⟨h0, v, r, e, RepD.trunc hH how ham hl.1.2 h1, RepKs.trunc hH how ham hl.2 h2⟩
  | true, (k, d) :: ds, _, hl, ⟨h0, q, v, r, e, hk, h1, h2⟩ => by
    unfold D.locsLtk at hl
    rw [Bool.and_eq_true, Bool.and_eq_true] at hl
    exact ⟨h0, q, v, r, e, RepD.trunc hH how ham hl.1.1 hk, RepD.trunc hH how ham hl.1.2 h1, RepKs.trunc hH how ham hl.2 h2⟩
end
def dropP (n : Nat) (q : Option Pl) : Option Pl :=
  match q with
  | some (.fld k f) => if k < n then some (.fld k f) else some .oth
  | some (.obj k) => if k < n then some (.obj k) else some .oth
  | some (.slot _) => some .oth
  | x => x
theorem dropP_none {n : Nat} {q : Option Pl} : dropP n q = none ↔ q = none := by
  cases q with
  | none => simp [dropP]
  | some p => cases p <;> simp [dropP] <;> split <;> simp
theorem dropP_src {n k : Nat} {p : Pl} (h : p.src = some k) (hk : k < n) : dropP n (some p) = some p := by
  cases p with
  | fld j f => cases h; simp [dropP, hk]
  | obj j => cases h; simp [dropP, hk]
  | _ => cases h
theorem gc_ok {S S' : Wd} {s s' : Store} {m : M} {v : V} (R0 : RlS c S s) (ns : NoSl S) (R' : RlS c S' s') (st : StC S S' s s') (r : RepM c S' .tmp m v) :
    ∃ S'', S''.H = S'.H ∧ RlS c S'' (gc s m s') ∧ StC S S'' s (gc s m s') ∧ NoSl S'' ∧ RepM c S'' .tmp m v := by
  unfold gc
  split
  · rename_i hg
    obtain ⟨hs, hl⟩ := hg
    have same : ∀ n en, s[n]? = some en → s'[n]? = some en := fun n en h => by
      have hlt := (List.getElem?_eq_some_iff.mp h).1
      have : (s'.take s.length)[n]? = s'[n]? := List.getElem?_take_of_lt hlt
      rw [hs] at this
      rw [← this]
      exact h
    have ent : ∀ p q n, S.ow p = some q → q.src = some n → S'.H p = S.H p ∧ S'.ow p = some q ∧ n < s.length := fun p q n h1 h2 => by
      have hlt := R0.src p q n h1 h2
      have he := List.getElem?_eq_getElem hlt
      obtain ⟨x, y⟩ := st.ent n _ he (same n _ he) p q h1 h2
      exact ⟨x, y, hlt⟩
    have fr : Fr S ⟨S.am, fun a => dropP s.length (S'.ow a), S'.H⟩ := ⟨fun a o h1 h2 h3 => by
      obtain ⟨x, y⟩ := st.keep a o h1 h2 h3
      exact ⟨x, dropP_none.mpr y⟩, [], by simp⟩
    have k : ∀ p q n, S.ow p = some q → q.src = some n → S'.H p = S.H p ∧ dropP s.length (S'.ow p) = some q := fun p q n h1 h2 => by
      obtain ⟨x, y, z⟩ := ent p q n h1 h2
      exact ⟨x, by rw [y]; exact dropP_src h2 z⟩
    refine ⟨⟨S.am, fun a => dropP s.length (S'.ow a), S'.H⟩, rfl, R0.step fr k rfl (fun a ha => R'.dom a fun z => ha (dropP_none.mpr z)) (fun a q n h1 h2 => ?_) R'.hl, ⟨fr, VerS.refl s, fun n en _ _ a p h1 h2 => k a p n h1 h2, fun a ha => ?_⟩, fun a i ha => ?_, ?_⟩
    · have h1 : dropP s.length (S'.ow a) = some q := h1
      cases e : S'.ow a with
      | none => rw [e] at h1; cases h1
      | some p =>
        rw [e] at h1
        cases p with
        | fld j f =>
          unfold dropP at h1
          dsimp only at h1
          split at h1
          · cases h1; cases h2; assumption
          · cases h1; cases h2
        | obj j =>
          unfold dropP at h1
          dsimp only at h1
          split at h1
          · cases h1; cases h2; assumption
          · cases h1; cases h2
        | slot j => cases h1; cases h2
        | tmp => cases h1; cases h2
        | oth => cases h1; cases h2
    · obtain ⟨x, y⟩ := st.oth a ha
      exact ⟨x, by show dropP s.length (S'.ow a) = _; rw [y]; rfl⟩
    · have ha : dropP s.length (S'.ow a) = some (.slot i) := ha
      cases e : S'.ow a with
      | none => rw [e] at ha; cases ha
      | some p =>
        rw [e] at ha
        cases p <;> unfold dropP at ha <;> dsimp only at ha <;> first | cases ha | (split at ha <;> cases ha)
    · have how : ∀ a, S'.ow a = none → dropP s.length (S'.ow a) = none := fun a h => dropP_none.mpr h
      have ham : ∀ j, j < s.length → S.am[j]? = S'.am[j]? := fun j hj => by
        obtain ⟨more, e⟩ := st.am
        rw [e, List.getElem?_append_left (by rw [R0.len]; exact hj)]
      cases m with
      | val d => exact RepD.trunc (S' := S') (S'' := ⟨S.am, fun a => dropP s.length (S'.ow a), S'.H⟩) rfl how ham hl r
      | ol xs =>
        obtain ⟨p, vs, e, h1, h2, h3⟩ := r
        exact ⟨p, vs, e, h1, by show dropP _ (S'.ow p) = _; rw [h2]; rfl, RepDs.trunc (S' := S') (S'' := ⟨S.am, fun a => dropP s.length (S'.ow a), S'.H⟩) rfl how ham hl h3⟩
      | od t kvs =>
        obtain ⟨p, vs, e, h1, h2, h3⟩ := r
        exact ⟨p, vs, e, h1, by show dropP _ (S'.ow p) = _; rw [h2]; rfl, RepKs.trunc (S' := S') (S'' := ⟨S.am, fun a => dropP s.length (S'.ow a), S'.H⟩) rfl how ham hl h3⟩
  · have sim := mask_sim S'
    refine ⟨S'.mask, rfl, sim.rls R', ⟨st.toFr.trans sim.fr, st.ver, fun n en h1 h2 a p h3 h4 => ?_, fun a ha => ?_⟩, mask_noSl S', sim.repM r fun p hp => ?_⟩
    · obtain ⟨x, y⟩ := st.ent n en h1 h2 a p h3 h4
      exact ⟨x, by rw [mask_ne (fun i z => by rw [y] at z; cases z; cases h4)]; exact y⟩
    · obtain ⟨x, y⟩ := st.oth a ha
      exact ⟨x, by rw [mask_ne (fun i z => by rw [y] at z; cases z)]; exact y⟩
    · rw [mask_ne (fun i z => by rw [hp] at z; cases z)]
      exact hp
theorem begun_rl {S : Wd} {s : Store} {fn : Fn} {ds : List D} {vs : List V} {N : List Str} (R : RlS c S s) (r : RepDs c S ds vs) (hn : fn.ns = N.length) (hl : ds.length ≤ fn.ns) : Rl c S (begun fn ds) s (L2.start N vs) where
  toRlS := R
  elen := by
    unfold begun L2.start
    rw [List.length_append, List.length_append, List.length_map, List.length_map, List.length_replicate, List.length_replicate, r.length, hn]
  slot := fun i m hi => by
    unfold begun at hi
    have hlt : i < ds.length := by
      by_cases h : i < ds.length
      · exact h
      · rw [List.getElem?_append_right (by rw [List.length_map]; omega), List.getElem?_replicate] at hi
        split at hi <;> cases hi
    rw [List.getElem?_append_left (by rw [List.length_map]; exact hlt), List.getElem?_map] at hi
    cases e : ds[i]? with
    | none => rw [e] at hi; cases hi
    | some d =>
      rw [e] at hi
      cases hi
      obtain ⟨v, hv, rd⟩ := r.get e
      refine ⟨v, ?_, rd⟩
      unfold L2.start
      rw [List.getElem?_append_left (by rw [List.length_map, r.length]; exact hlt), List.getElem?_map, hv]
      rfl
/-- what the body is asked, from the def's promise -/
theorem body_of {ws : List Nat} {R : Runs} {n : Nat} {fn : Fn} {S : Wd} {s : Store} {ds : List D} {vs : List V} {N : List Str} {Q : VK} {E : XK} (R0 : RlS c S s) (ns : NoSl S) (r : RepDs c S ds vs) (hn : fn.ns = N.length) (hl : ds.length ≤ fn.ns)
    (p : PostF c S s (fin s (execs R n fn.body (begun fn ds) s)) Q E) : tS c (fun cls d _ H => E cls d H) ws (execs R n fn.body) { nx := fun _ H' => Q .non H', rt := Q } (L2.start N vs) S.H := by
  refine ⟨S, begun fn ds, s, rfl, begun_rl R0 r hn hl, ?_⟩
  cases h : execs R n fn.body (begun fn ds) s with
  | ok f e' s' =>
    rw [h] at p
    cases f with
    | nx =>
      intro S' σ' R' st
      obtain ⟨S'', hH, R'', st'', ns'', rp⟩ := gc_ok (m := .val .non) (v := .non) R0 ns R'.toRlS st.toStC rfl
      have := p S'' .non R'' st'' ns'' rp
      rw [hH] at this
      exact this
    | ret m =>
      intro S' v R' st rp
      obtain ⟨S'', hH, R'', st'', ns'', rp⟩ := gc_ok R0 ns R' st rp
      have := p S'' v R'' st'' ns'' rp
      rw [hH] at this
      exact this
  | err k e' s' =>
    rw [h] at p
    intro S' σ' R' st
    obtain ⟨S'', hH, R'', st'', ns'', rp⟩ := gc_ok (m := .val .non) (v := .non) R0 ns R'.toRlS st.toStC rfl
    have := p S'' R'' st'' ns''
    rw [hH] at this
    exact this
  | bad => rw [h] at p; exact p
/-- A DEF OF THE TEXT: its promise, from its body -/
theorem def_ok {P : Program} {w : World} {K : PySem.W.Frag} {mg : Str → Option Value} {base : Heap} {x qual : Str} {st : Stmt} {f : Addr} {fd : FuncData} {N ps : List Str} {k n m : Nat} {Pg : Prog} {name : String} {fn : Fn} {ws : List Nat} (F : L2.Fun K x qual st f fd) (Sc : FnScope N ps (defScope st))
    (hf : look Pg name = some fn) (hnp : ps.length = fn.np) (hns : fn.ns = N.length)
    (hbody : ∀ (cdv : Value) (A : Around) (outer : List PySem.Env) (s : Shared) (H : Hp) (E : XK), Room k (A.deeper (envOfC qual (defScope st) s.heap.objs.size f cdv)) →
      PSs (cxOf (L2.CX P w) P w K mg base N qual (defScope st) f cdv A outer s H E) (defBody st) (tS c (fun cls d _ H => E cls d H) ws (execs (run Pg m n) m fn.body))) :
    FnOk P w K mg base (L2.CX P w) (k + 1) f fd ps (spF c (run Pg m (n + 1)) name fn.np) := by
  refine F.okX Sc (fun vs H Q E h => ?_) fun cdv A outer s H vs Q E hr h => ⟨_, hbody cdv A outer s H E hr, ?_⟩
  · obtain ⟨S, s, ds, _, _, _, r, hl, _⟩ := h
    rw [r.length, hl, hnp]
  · obtain ⟨S, s, ds, rfl, R0, ns, r, hl, p⟩ := h
    unfold run at p
    rw [hf] at p
    dsimp only at p
    split at p
    · rename_i hh
      exact body_of R0 ns r hns (by omega) p
    · exact p.elim
end
end OI

/-! OIu1: more lifts of expressions: attributes, chains, methods of built-ins. -/
namespace OI
open PySem PySem.Spec PyProof.Rows L2
section
variable {X : Cx} {c : Cn} {W : WX} {R : Runs} {a b d : Expr} {ia ib id : IE} {pos apos cpos : Pos}
/-- o.f -/
theorem s_attr {f : String} (hK : X.K = c.K) (hC : ∀ k, Cls X.K (c.icl k)) (hA : ∀ k, NoAttr X.K (c.icl k) (Str.ofString f)) (hp : plainE a = true) (ha : PE X a (tE c W (ev R ia))) : PE X (.Attribute a (Str.ofString f) pos) (tE c W (ev R (.attr ia f))) :=
  (pe_fld ha (plain_base hp _ _ _)).weak fun σ H Q q => by
    obtain ⟨S, e, s, rfl, Rr, p⟩ := q
    refine ⟨S, e, s, rfl, Rr, PostG.bind Rr.toRlS p fun x e1 s1 S1 v q1 R1 st1 rp1 p1 => ?_⟩
    unfold attrK at p1
    split at p1
    · rename_i n hx
      split at p1
      · rename_i k fs w he
        split at p1
        · rename_i m hf
          have r := rp1.1
          rw [hx] at r
          obtain ⟨ad, ev, ha⟩ := r
          obtain ⟨ho, dx, gs, h1, h2, h3⟩ := Rl.locs R1.toRlS ha he
          obtain ⟨y, hy, ry⟩ := h2.get hf
          exact ⟨ad, c.icl k, dx, gs, y, ev, h1, hC k, hA k, hy, p1 S1 y R1 (StE.refl _ _) ⟨ry, ad, c.icl k, dx, gs, ha, h1, hy⟩⟩
        · exact p1.elim
      · exact p1.elim
    · exact p1.elim
/-- a op b op2 d -/
theorem chain_ok {op op2 : COp} {σ : L2.St} {H : Hp} {Q : VK} (q : tE c W (ev R (.chain op op2 ia ib id)) σ H Q) : tChain (R2b c (cmp op)) (R2b c (cmp op2)) (tE c W (ev R ia)) (tE c W (ev R ib)) (tE c W (ev R id)) σ H Q := by
  obtain ⟨S, e, s, rfl, Rr, p⟩ := q
  refine ⟨S, e, s, rfl, Rr, PostG.bind Rr.toRlS p fun x1 e1 s1 S1 v1 q1 R1 st1 rp1 p1 => ?_⟩
  obtain ⟨S1', pl', R1', hH, ham, rp1', hpl, hbw, _, st1'⟩ := pend R1 rp1.1
  replace p1 := PostG.shift R1.toRlS st1' p1
  refine ⟨S1', e1, s1, hH, R1', PostG.bind R1'.toRlS p1 fun x2 e2 s2 S2 v2 q2 R2 st2 rp2 p2 => ?_⟩
  split at p2
  · rename_i hs
    rw [← hbw] at hs p2
    have rx := bw_keep R1'.toRlS rp1' hpl st2 hs
    have ry := bw_view R2.toRlS rp2.1
    generalize (bw x1.1 pl' s1).1 = m1 at rx p2
    generalize (bw x2.1 x2.2 s2).1 = m2 at ry p2
    unfold valK at p2
    dsimp only at p2
    split at p2
    · rename_i hv
      unfold chainK at p2
      split at p2
      · rename_i hc
        refine ⟨S2, s2, m1, m2, true, rfl, R2.toRlS, rx, ry, hc, true, rfl, ?_⟩
        rw [if_pos rfl]
        refine ⟨S2, e2, s2, rfl, R2, PostG.bind R2.toRlS p2 fun x3 e3 s3 S3 v3 q3 R3 st3 rp3 p3 => ?_⟩
        obtain ⟨b2, hb2, p3⟩ := outB_ok p3
        have ry' : RepV c S3 m2 v2 := by
          cases m2 with
          | val d => exact RepD.mono st3.toFr ry
          | _ => cases hv
        exact ⟨S3, s3, m2, _, b2, rfl, R3.toRlS, ry', bw_view R3.toRlS rp3.1, hb2, end_val R3 p3 rfl⟩
      · rename_i hc
        refine ⟨S2, s2, m1, m2, false, rfl, R2.toRlS, rx, ry, hc, false, rfl, ?_⟩
        rw [if_neg Bool.false_ne_true]
        exact end_val R2 p2 rfl
      · exact p2.elim
    · exact p2.elim
  · exact p2.elim
theorem last_marks {o o2 : CmpOp} {b d : Expr} (h : plainE d = true) : lastMarks [o, o2] [b, d] = false := plain_marks h o2
theorem s_chain {op op2 : COp} {o o2 : CmpOp} (ho : OpR X (compareOp o) (R2b c (cmp op))) (ho2 : OpR X (compareOp o2) (R2b c (cmp op2))) (hd : plainE d = true) (ha : PE X a (tE c W (ev R ia))) (hb : PE X b (tE c W (ev R ib))) (hc : PE X d (tE c W (ev R id))) : SE X c W (.Compare a [o, o2] [b, d] pos) (ev R (.chain op op2 ia ib id)) :=
  ⟨(pe_chain ho ho2 ha hb hc (last_marks hd)).weak fun σ H Q q => chain_ok q, (pt_chain ho ho2 ha hb hc (last_marks hd)).weak fun σ H Q q => chain_ok (testB_val q), fun op vs p e => by cases e⟩
/-- o.index(a), o.count(a) -/
theorem s_bmL {m : String} {fx : Str} {id' : String} (hK : X.K = c.K) (slot : Slot "list" fx id') (hty : typeOf (.builtin id') = pure (.type "method_descriptor")) (hm : MtR X id' (R1m c (bm1 m))) (hb : m = "index" ∨ m = "count") (ho : PE X a (tE c W (ev R ia))) (ha : PE X b (tE c W (ev R ib))) (hpo : plainE a = true) (hpa : plainE b = true)
    (hline : (apos.endLine == cpos.line) = true) : PE X (.Call (.Attribute a fx apos) [b] [] cpos) (tE c W (ev R (.bm1 m ia ib))) :=
  (pe_bm PySem.F.plainAttrs_list slot hty hm ho (pa1 hpa ha) (plain_base hpo _ _ _) (by rw [star1 hpa]; rfl) hline (plain_star hpa [] X.env) any0).weak fun σ H Q q => by
    obtain ⟨S, e, s, rfl, Rr, p⟩ := q
    refine ⟨S, e, s, rfl, Rr, PostG.bind Rr.toRlS p fun x1 e1 s1 S1 v1 q1 R1 st1 rp1 p1 => ?_⟩
    split at p1
    · rename_i hk
      unfold bmOk at hk
      rw [if_pos hb] at hk
      obtain ⟨xs, hx⟩ := Option.isSome_iff_exists.mp hk
      obtain ⟨pv, vs, rfl, hl, _⟩ := lst_of hx (bw_view R1.toRlS rp1.1)
      refine ⟨.inl ⟨rfl, vs, by rw [hK]; exact hl⟩, ?_⟩
      obtain ⟨S1', pl', R1', hH, ham, rp1', hpl, hbw, _, st1'⟩ := pend R1 rp1.1
      replace p1 := PostG.shift R1.toRlS st1' p1
      refine ⟨S1', e1, s1, hH, R1', PostG.bind R1'.toRlS p1 fun x2 e2 s2 S2 v2 q2 R2 st2 rp2 p2 => ?_⟩
      unfold bm1K at p2
      split at p2
      · rename_i hs
        rw [← hbw] at hs p2
        obtain ⟨m3, hm3, p2⟩ := out_ok p2
        exact ⟨S2, s2, _, _, v2, m3, rfl, rfl, R2.toRlS, bw_keep R1'.toRlS rp1' hpl st2 hs, bw_view R2.toRlS rp2.1, hm3, fun S' v al rp => end_al R2 p2 al rp⟩
      · exact p2.elim
    · exact p1.elim
/-- o.join(a), o.split(a) -/
theorem s_bmS {m : String} {fx : Str} {id' : String} (slot : Slot "str" fx id') (hty : typeOf (.builtin id') = pure (.type "method_descriptor")) (hm : MtR X id' (R1m c (bm1 m))) (hb : ¬ (m = "index" ∨ m = "count")) (ho : PE X a (tE c W (ev R ia))) (ha : PE X b (tE c W (ev R ib))) (hpo : plainE a = true) (hpa : plainE b = true)
    (hline : (apos.endLine == cpos.line) = true) : PE X (.Call (.Attribute a fx apos) [b] [] cpos) (tE c W (ev R (.bm1 m ia ib))) :=
  (pe_m1 slot hty hm ho ha (star1 hpa) (plain_base hpo _ _ _) hline).weak fun σ H Q q => by
    obtain ⟨S, e, s, rfl, Rr, p⟩ := q
    refine ⟨S, e, s, rfl, Rr, PostG.bind Rr.toRlS p fun x1 e1 s1 S1 v1 q1 R1 st1 rp1 p1 => ?_⟩
    split at p1
    · rename_i hk
      unfold bmOk at hk
      rw [if_neg hb] at hk
      have hv : ∃ z, v1 = .str z := by
        have r := bw_view R1.toRlS rp1.1
        generalize (bw x1.1 x1.2 s1).1 = mm at r hk
        split at hk
        · exact ⟨_, r⟩
        · cases hk
      refine ⟨hv, ?_⟩
      obtain ⟨S1', pl', R1', hH, ham, rp1', hpl, hbw, _, st1'⟩ := pend R1 rp1.1
      replace p1 := PostG.shift R1.toRlS st1' p1
      refine ⟨S1', e1, s1, hH, R1', PostG.bind R1'.toRlS p1 fun x2 e2 s2 S2 v2 q2 R2 st2 rp2 p2 => ?_⟩
      unfold bm1K at p2
      split at p2
      · rename_i hs
        rw [← hbw] at hs p2
        obtain ⟨m3, hm3, p2⟩ := out_ok p2
        exact ⟨S2, s2, _, _, v2, m3, rfl, rfl, R2.toRlS, bw_keep R1'.toRlS rp1' hpl st2 hs, bw_view R2.toRlS rp2.1, hm3, fun S' v al rp => end_al R2 p2 al rp⟩
      · exact p2.elim
    · exact p1.elim
theorem m2_ok {m : Str} (hpo : plainE a = true) (hpb : plainE b = true) (hpd : plainE d = true) (hline : (apos.endLine == cpos.line) = true) : M2 X a m apos b d cpos :=
  ⟨plain_base hpo _ _ _, few2 hpb hpd, hline, by rw [star2 hpb hpd]; rfl⟩
/-- d.get(k, x), the keys of either kind -/
def GetA (X : Cx) (H : Hp) (a : Addr) (y : V) (o : Option V) : Prop := DGet H a y o ∨ ∀ (pins : List (Addr × Obj)) (σ : L2.St) (s : Shared), Inv X pins σ H s → ∃ ks ps ep k q, y = .ref q ∧ H a = some (.ext (NK.DicAt a ks (NK.weave ps ep))) ∧ NK.Keys X.prog X.w s.heap ks ps ∧ (NK.nk X.prog X.w).is s.heap k q ∧ o = NK.atN ks ps k
def IsDN (H : Hp) (a : Addr) : Prop := IsD H a ∨ ∃ ks vs, H a = some (.ext (NK.DicAt a ks vs))
def tDGet2A (X : Cx) (td ty tx : TE) : TE := fun σ H Q => td σ H fun x H1 => ∃ a, x = .ref a ∧ IsDN H1 a ∧ ty σ H1 fun y H2 => tx σ H2 fun z H3 => ∃ o, GetA X H3 a y o ∧ Q (o.getD z) H3
theorem pe_dget2A {o e f : Expr} {td ty tx : TE} (hu : X.A.units + 2 < cLine) (ho : PE X o td) (he : PE X e ty) (hf : PE X f tx) (m : M2 X o "get" apos e f cpos) : PE X (.Call (.Attribute o "get" apos) [e, f] [] cpos) (tDGet2A X td ty tx) := by
  refine ⟨fun pins s σ H Q I h => ?_⟩
  refine wpAny_Call_method m.base m.few m.line PySem.F.plainAttrs_dict PySem.F.slot_dict_get PySem.F.type_dict_get (thn (ho.run pins s σ H _ I h) fun u s1 ⟨x, H1, I1, rx, a, ex, d, q1⟩ => ?_)
  subst ex
  obtain rfl : u = Value.ref a := rx
  obtain ⟨t1, t2, _⟩ : s1.TypeIs (.ref a) "dict" ∧ (∀ b, Value.ref a = .ref b → ∃ ob, s1.heap.get? b = some ob ∧ ob.dict = none) ∧ (a == sysModules) = false := by
    rcases d with d | ⟨ks, vs, d⟩
    · exact isD_at I1 d
    · exact NK.dic_type I1 d
  refine ⟨t1, t2, ?_⟩
  rw [m.trees]
  refine Calls.callWith_builtin rfl (Calls.evalArgs_plain (Calls.spliced_cons (thn (he.run pins s1 σ H1 _ I1 q1) fun iv s2 ⟨y, H2, I2, ry, q2⟩ =>
    Calls.spliced_cons (thn (hf.run pins s2 σ H2 _ I2 q2) fun fv s3 ⟨z, H3, I3, rz, ov, g, q3⟩ => Calls.spliced_nil ?_))))
  rcases g with g | g
  · exact d_get2 (by omega) I3 g ry rz fun w' s4 I4 rw' => ⟨_, H3, I4, rw', q3⟩
  · obtain ⟨ks, ps, ep, k, q, rfl, hp, hk, hq, rfl⟩ := g pins σ s3 I3
    cases ry
    exact NK.n_get2 hu I3 hp rfl hk hq rz fun w' s4 I4 rw' => ⟨_, H3, I4, rw', q3⟩
theorem s_get (hK : X.K = c.K) (hu : X.A.units + 2 < cLine) (ho : PE X a (tE c W (ev R ia))) (hb : PE X b (tE c W (ev R ib))) (hd : PE X d (tE c W (ev R id))) (hpo : plainE a = true) (hpb : plainE b = true) (hpd : plainE d = true) (hline : (apos.endLine == cpos.line) = true) :
    PE X (.Call (.Attribute a "get" apos) [b, d] [] cpos) (tE c W (ev R (.bm2 "get" ia ib id))) :=
  (pe_dget2A hu ho hb hd (m2_ok hpo hpb hpd hline)).weak fun σ H Q q => by
    obtain ⟨S, e, s, rfl, Rr, p⟩ := q
    refine ⟨S, e, s, rfl, Rr, PostG.bind Rr.toRlS p fun x1 e1 s1 S1 v1 q1 R1 st1 rp1 p1 => ?_⟩
    split at p1
    · rename_i hk
      have hdk : ∃ (p : Addr), v1 = .ref p ∧ IsDN S1.H p := by
        have r := bw_view R1.toRlS rp1.1
        generalize (bw x1.1 x1.2 s1).1 = mm at r hk
        unfold dkOk at hk
        split at hk
        · rename_i tk hx
          obtain ⟨t, kvs⟩ := tk
          obtain ⟨p, vs, e1, h1, _⟩ := dic_of hx r
          cases t with
          | false => exact ⟨p, e1, .inl (.inl ⟨_, .inl h1⟩)⟩
          | true => exact ⟨p, e1, .inr ⟨_, _, h1⟩⟩
        · cases hk
      obtain ⟨pv, rfl, hp⟩ := hdk
      refine ⟨pv, rfl, hp, ?_⟩
      obtain ⟨S1', pl', R1', hH, ham, rp1', hpl, hbw, _, st1'⟩ := pend R1 rp1.1
      replace p1 := PostG.shift R1.toRlS st1' p1
      refine ⟨S1', e1, s1, hH, R1', PostG.bind R1'.toRlS p1 fun x2 e2 s2 S2 v2 q2 R2 st2 rp2 p2 => ?_⟩
      obtain ⟨S2', pl2', R2', hH2, ham2, rp2', hpl2, hbw2, _, st2'⟩ := pend R2 rp2.1
      replace p2 := PostG.shift R2.toRlS st2' p2
      refine ⟨S2', e2, s2, hH2, R2', PostG.bind R2'.toRlS p2 fun x3 e3 s3 S3 v3 q3 R3 st3 rp3 p3 => ?_⟩
      unfold bm2K at p3
      split at p3
      · rename_i hs
        rw [Bool.and_eq_true] at hs
        obtain ⟨hs1, hs2⟩ := hs
        rw [← hbw] at hs1 p3
        rw [← hbw2] at hs2 p3
        have r1 := bw_keep R1'.toRlS rp1' hpl ((st2.trans R1'.dom st2').trans R1'.dom st3) hs1
        have r2 := bw_keep R2'.toRlS rp2' hpl2 st3 hs2
        have r3 := bw_view R3.toRlS rp3.1
        obtain ⟨m3, hm3, p3⟩ := out_ok p3
        rw [← hbw] at hk
        generalize (bw x1.1 pl' s1).1 = m1 at r1 hm3 hk
        generalize (bw x2.1 pl2' s2).1 = m2 at r2 hm3
        generalize (bw x3.1 x3.2 s3).1 = mz at r3 hm3
        replace hm3 : getM m1 m2 mz = some m3 := hm3
        unfold getM at hm3
        split at hm3
        · rename_i t kvs hx
          split at hm3
          · rename_i k dd
            clear hk
            split at hm3
            · rename_i hko
              cases hm3
              obtain ⟨p', vs, ev, h1, h2⟩ := dic_of hx r1
              cases ev
              cases t with
              | true =>
                have hko : k.tupKey = true := hko
                obtain ⟨ps, ep, rfl, rn⟩ := h2.toN
                obtain ⟨a, rfl⟩ := tup_ref hko r2
                obtain ⟨g1, g2⟩ := atN_dget hko rn
                refine ⟨NK.atN ((kvs.map (·.1)).map nKey) ps (nKey k), .inr fun pins σ s I => ⟨_, ps, ep, nKey k, a, rfl, h1, keys_is hK I rn, nk_is hK I hko r2, rfl⟩, ?_⟩
                cases hg : dget kvs k with
                | none =>
                  rw [hg] at p3
                  rw [g2 hg]
                  exact end_val R3 p3 r3
                | some d' =>
                  rw [hg] at p3
                  obtain ⟨v', hv', rd'⟩ := g1 d' hg
                  rw [hv']
                  exact end_val R3 p3 rd'
              | false =>
              have hko : k.flatKey = true := hko
              obtain ⟨g1, g2⟩ := kget hko h2
              refine ⟨_, .inl (.inl ⟨_, keyOf k, .inl h1, keyOf_V hko r2, rfl⟩), ?_⟩
              cases hg : dget kvs k with
              | none =>
                rw [hg] at p3
                rw [g2 hg]
                exact end_val R3 p3 r3
              | some d' =>
                rw [hg] at p3
                obtain ⟨v', hv', rd'⟩ := g1 d' hg
                rw [hv']
                exact end_val R3 p3 rd'
            · cases hm3
          · cases hm3
        · cases hm3
      · exact p3.elim
    · exact p1.elim
end
end OI

/-! OIu2: methods of own classes, new instances, fields stored, raises. -/
namespace OI
open PySem PySem.Spec PyProof.Rows L2

theorem meth_eval {o : Expr} {m : Str} {es : List Expr} {apos pos : Pos} {env : PySem.Env} (ho : plainE o = true) (hes : es.all plainE = true) (hl : es.length < 30) (hline : (apos.endLine == pos.line) = true) :
    eval (.Call (.Attribute o m apos) es [] pos) env = (do
      let ov ← eval o env
      standAt apos.atName
      let (f, first) ← holding [ov] (getMethod ov m (do return (← importBound o env).getD true))
      callWith pos f first (backTo pos (starEach es env)) (backToKw pos (keywordEach [] env))) := by
  have hall : ∀ es : List Expr, es.all plainE = true → ((backTo pos (starEach es env)).all (fun x => !x.1)) = true := by
    intro es
    induction es with
    | nil => exact fun _ => rfl
    | cons a r ih =>
      intro h
      rw [List.all_cons, Bool.and_eq_true] at h
      rw [plain_star h.1]
      have := ih h.2
      unfold backTo at this ⊢
      rw [List.map_cons, List.all_cons, this]
      rfl
  have hk : backToKw pos (keywordEach [] env) = [] := rfl
  have hf : methodCallForm (es.length + ([] : List Keyword).length) (backTo pos (starEach es env)) (backToKw pos (keywordEach [] env)) = true := by
    unfold methodCallForm
    rw [hall es hes, hk]
    simp
    omega
  rw [arm_eval_Call, plain_base ho]
  unfold methodCall
  rw [hf]
  have hp : methodCallPos true o env apos pos = pure pos := by
    unfold methodCallPos
    rw [hline]
    rfl
  rw [hp]
  rfl

section
variable {X : Cx} {c : Cn} {W : WX} {R : Runs}
/-- a method of a class of the text, as a body may call it -/
structure MtI (X : Cx) (c : Cn) (R : Runs) (j : Nat) (k m : String) (np : Nat) : Prop where
  cl : Cls X.K (c.icl k)
  some : ∃ fa fd ps, Meth X.K (c.icl k) (Str.ofString m) fa ∧ Binds X.K fd ps [] ∧ ps.length = np ∧ FnOk X.prog X.w X.K X.mg X.base (L2.CX X.prog X.w) j fa fd ps (spF c R (k ++ "." ++ m) np)
def tMethW (C : Addr) (m : Str) (sp : Sp) (E : L2.St → XK) (ta : TE) (t : TA) : TE := fun σ H Q => ta σ H fun x H1 => ∃ a dx fs, x = .ref a ∧ H1 a = some (.ins C dx fs) ∧ fs.lookup m = none ∧ t σ H1 fun vs H2 => sp (x :: vs) H2 Q (E σ)
section
variable {CX : CXT} {k : Nat} {f C : Addr} {fd : FuncData} {ps : List Str} {sp : Sp} {E : L2.St → XK} {x m : Str} {p pos apos : Pos} {e o : Expr} {es : List Expr} {ta : TE} {t : TA}
theorem pe_methW {pl : Sem Bool} (he : PE X o ta) (c : Cls X.K C) (hm : Meth X.K C m f) (F : FnOk X.prog X.w X.K X.mg X.base CX k f fd ps sp) (hr : Room k X.A) (hb : Binds X.K fd ps []) (hx : ∀ σ, PassesAt CX X σ (E σ)) (ha : PA X (e :: es) t)
    (hst : starEach (e :: es) X.env = (false, eval e X.env) :: starEach es X.env) (hpl : (backTo pos (starEach es X.env)).any (·.1) = false)
    (ht : eval (.Call (.Attribute o m apos) (e :: es) [] pos) X.env = (do
      let ov ← eval o X.env
      standAt apos.atName
      let (f, first) ← holding [ov] (getMethod ov m pl)
      callWith pos f first (backTo pos (starEach (e :: es) X.env)) (backToKw pos (keywordEach [] X.env)))) :
    PE X (.Call (.Attribute o m apos) (e :: es) [] pos) (tMethW C m sp E ta t) := by
  refine ⟨fun pins s σ H Q I h => ?_⟩
  refine PySem.W.methodCall_KW (pl := pl) (thn (he.run pins s σ H _ I h) fun u s1 ⟨x, H1, I1, rx, a, dx, fs, ex, ea, l, q⟩ => ?_) ht
  subst ex
  obtain rfl : u = Value.ref a := rx
  refine getmeth_ok I1 ea c hm l ?_
  refine PySem.W.callWith_K (first := [.ref a]) (h₀ := X.base) I.ok.mod.kin hm.kp (thn (ha.run pos pins s1 σ H1 _ I1 q) fun us s2 ⟨vs, H2, I2, r, q2⟩ => ⟨I2.kIn, ?_⟩) hst hpl
  exact run_fnS (us := .ref a :: us) (vs := .ref a :: vs) F hr hb (hx σ) I2 (.cons rfl r) q2
theorem pe_methW0 {pl : Sem Bool} (he : PE X o ta) (c : Cls X.K C) (hm : Meth X.K C m f) (F : FnOk X.prog X.w X.K X.mg X.base CX k f fd ps sp) (hr : Room k X.A) (hb : Binds X.K fd ps []) (hx : ∀ σ, PassesAt CX X σ (E σ))
    (ht : eval (.Call (.Attribute o m apos) [] [] pos) X.env = (do
      let ov ← eval o X.env
      standAt apos.atName
      let (f, first) ← holding [ov] (getMethod ov m pl)
      callWith pos f first (backTo pos (starEach [] X.env)) (backToKw pos (keywordEach [] X.env)))) :
    PE X (.Call (.Attribute o m apos) [] [] pos) (tMethW C m sp E ta tNil) := by
  refine ⟨fun pins s σ H Q I h => ?_⟩
  refine PySem.W.methodCall_KW (pl := pl) (thn (he.run pins s σ H _ I h) fun u s1 ⟨x, H1, I1, rx, a, dx, fs, ex, ea, l, q⟩ => ?_) ht
  subst ex
  obtain rfl : u = Value.ref a := rx
  refine getmeth_ok I1 ea c hm l ?_
  exact PySem.W.callWith_K0 (first := [.ref a]) I1.kIn hm.kp (run_fnS (us := [.ref a]) (vs := [.ref a]) F hr hb (hx σ) I1 (.cons rfl .nil) q)
/-- C(..) -/
def tMakeW (C : Addr) (sp : Sp) (E : L2.St → XK) (t : TA) : TE := fun σ H Q => t σ H fun vs H1 => ∀ x dx, H1 x = none → H1 dx = none → dx ≠ x →
  sp (.ref x :: vs) (L2.upd (L2.upd H1 dx (.own x)) x (.ins C dx [])) (fun v H2 => v = .non ∧ Q (.ref x) H2) (E σ)
theorem run_makeW {pins : List (Addr × Obj)} {σ : L2.St} {H : Hp} {s : Shared} {Q : VK} {us : List Value} {vs : List V} (M : Mk X.K C f) (F : FnOk X.prog X.w X.K X.mg X.base CX k f fd ps sp) (hr : Room (k + 1) X.A) (hb : Binds X.K fd ps [])
    (hx : PassesAt CX X σ (E σ)) (I : Inv X pins σ H s) (r : Vals vs us)
    (h : ∀ x dx, H x = none → H dx = none → dx ≠ x → sp (.ref x :: vs) (L2.upd (L2.upd H dx (.own x)) x (.ins C dx [])) (fun v H2 => v = .non ∧ Q (.ref x) H2) (E σ)) :
    wpAny (model X.prog X.w) X.A (call (.ref C) us) (EP X pins σ Q) X.xe s := by
  have hq := h (s.heap.objs.size + 1) s.heap.objs.size (I.hok.fresh (Nat.le_succ _)) (I.hok.fresh (Nat.le_refl _)) (Nat.ne_of_lt (Nat.lt_succ_self _))
  have I2 := Inv.made (C := C) I
  have r2 : Vals (V.ref (s.heap.objs.size + 1) :: vs) (Value.ref (s.heap.objs.size + 1) :: us) := .cons rfl r
  have hl : ((Value.ref (s.heap.objs.size + 1) :: us) ++ []).length = ps.length := by
    have e := r2.length
    rw [F.len _ _ _ _ hq] at e
    rw [List.append_nil]
    exact e.symm
  have b := hb _ (Value.ref (s.heap.objs.size + 1) :: us) I2.kIn hl
  rw [List.append_nil] at b
  refine wpAny_call (make_map (f := f) I.kIn M.makes M.init (beq_iff_eq.mp M.fn) (codeAny_mono (F.run _ X.stack _ _ ⟨Value.ref (s.heap.objs.size + 1) :: us, []⟩ (Value.ref (s.heap.objs.size + 1) :: us) _ _ (E σ) (hr.make C us [])
    (I2.env0.make C us []) b r2 hq) fun r s' hq' => ?_))
  cases r with
  | error e => exact hx pins _ _ e s' I2 hq'
  | ok fl =>
    cases fl with
    | ret u =>
      obtain ⟨v, H', I3, rv, ev, q3⟩ := I2.after hq'
      subst ev
      exact ⟨rv, ⟨V.ref (s.heap.objs.size + 1), H', I3, rfl, q3⟩⟩
    | next => exact False.elim hq'
    | brk => exact False.elim hq'
    | cont => exact False.elim hq'
theorem pe_makeW (M : Mk X.K C f) (F : FnOk X.prog X.w X.K X.mg X.base CX k f fd ps sp) (hr : Room (k + 1) X.A) (hg : Gl X x) (hm : X.mg x = some (.ref C)) (hb : Binds X.K fd ps []) (hx : ∀ σ, PassesAt CX X σ (E σ))
    (ha : PA X (e :: es) t) (hdb : (x == ("__debug__" : Str)) = false) (he : starEach (e :: es) X.env = (false, eval e X.env) :: starEach es X.env) (hpl : (backTo pos (starEach es X.env)).any (·.1) = false) :
    PE X (.Call (.Name x p) (e :: es) [] pos) (tMakeW C sp E t) := by
  refine ⟨fun pins s σ H Q I h => ?_⟩
  refine wpAny_Call_Name_kw (ld_glob I hg hm ?_ hdb)
  refine PySem.W.callWith_K (h₀ := X.base) I.ok.mod.kin M.kp (thn (ha.run pos pins s σ H _ I h) fun us s1 ⟨vs, H1, I1, r, q⟩ => ⟨I1.kIn, ?_⟩) he hpl
  exact run_makeW M F hr hb (hx σ) I1 r q
theorem pe_makeW0 (M : Mk X.K C f) (F : FnOk X.prog X.w X.K X.mg X.base CX k f fd ps sp) (hr : Room (k + 1) X.A) (hg : Gl X x) (hm : X.mg x = some (.ref C)) (hb : Binds X.K fd ps []) (hx : ∀ σ, PassesAt CX X σ (E σ))
    (hdb : (x == ("__debug__" : Str)) = false) : PE X (.Call (.Name x p) [] [] pos) (tMakeW C sp E tNil) := by
  refine ⟨fun pins s σ H Q I h => ?_⟩
  refine wpAny_Call_Name_kw (ld_glob I hg hm ?_ hdb)
  exact PySem.W.callWith_K0 I.kIn M.kp (run_makeW (us := []) M F hr hb (hx σ) I .nil h)
end

theorem RepF.names {S : Wd} {n : Nat} {f : String} : ∀ {fs : List (String × M)} {gs : List (Str × V)}, RepF c S n fs gs → fldGet fs f = none → gs.lookup (Str.ofString f) = none
  | [], _, h, _ => by rw [show _ = [] from h]; rfl
  | (g, m') :: r, _, ⟨v, q, e, h1, h2⟩, h => by
    subst e
    by_cases z : g = f
    · subst z
      have : fldGet ((g, m') :: r) g = some m' := by simp [fldGet]
      rw [this] at h
      cases h
    · have e1 : fldGet ((g, m') :: r) f = fldGet r f := by simp [fldGet, z]
      rw [e1] at h
      have hne : (Str.ofString f == Str.ofString g) = false := beq_eq_false_iff_ne.mpr fun w => z (ofString_inj w).symm
      rw [List.lookup_cons, hne]
      exact RepF.names h2 h
/-- o.m(..) -/
theorem meth_q {k m : String} {np : Nat} {ia : IE} {ias : IEs} {σ : L2.St} {H : Hp} {Q : VK} (hn : ias.len + 1 = np) (q : tE c W (ev R (.meth ia k m ias)) σ H Q) : tMethW (c.icl k) (Str.ofString m) (spF c R (k ++ "." ++ m) np) (WE W) (tE c W (ev R ia)) (tA c W (evs R ias)) σ H Q := by
  obtain ⟨S, e, s, rfl, Rr, p⟩ := q
  refine ⟨S, e, s, rfl, Rr, PostG.bind Rr.toRlS p fun x e1 s1 S1 v q1 R1 st1 rp1 p1 => ?_⟩
  unfold methK at p1
  split at p1
  · rename_i n hx
    split at p1
    · rename_i k' fs w he
      split at p1
      · rename_i hk
        obtain ⟨rfl, hf⟩ := hk
        have r := rp1.1
        rw [hx] at r
        obtain ⟨ad, rfl, ha⟩ := r
        obtain ⟨ho, dx, gs, h1, h2, h3⟩ := Rl.locs R1.toRlS ha he
        refine ⟨ad, dx, gs, rfl, h1, RepF.names h2 hf, ?_⟩
        refine ⟨S1, e1, s1, rfl, R1, PostG.bind R1.toRlS p1 fun ds e2 s2 S2 vs q2 R2 st2 rp2 p2 => ?_⟩
        have := call_of R2 (ds := .loc n :: ds) (vs := .ref ad :: vs) ⟨.ref ad, vs, rfl, ⟨ad, rfl, st2.toFr.amAt ha⟩, rp2⟩ p2
        rw [List.length_cons, evs_len q2, hn] at this
        exact this
      · exact p1.elim
    · exact p1.elim
  · exact p1.elim
theorem s_nil2 {σ : L2.St} {H : Hp} {Q : List V → Hp → Prop} (q : tA c W (evs R .nil) σ H Q) : tNil σ H Q := by
  obtain ⟨S, e, s, rfl, Rr, p⟩ := q
  exact p S [] Rr (StE.refl S s) rfl
theorem s_meth {k m : String} {np j : Nat} {o : Expr} {as : List Expr} {ia : IE} {ias : IEs} {apos pos : Pos} (F : MtI X c R j k m np) (hr : Room j X.A) (tk : Takes X W) (hn : ias.len + 1 = np) (hpo : plainE o = true) (hp : as.all plainE = true) (hl : as.length < 30) (hline : (apos.endLine == pos.line) = true)
    (ho : PE X o (tE c W (ev R ia))) (ha : PA X as (tA c W (evs R ias))) (h0 : as = [] → ias = .nil) : PE X (.Call (.Attribute o (Str.ofString m) apos) as [] pos) (tE c W (ev R (.meth ia k m ias))) := by
  obtain ⟨fa, fd, ps, h1, h3, h4, h5⟩ := F.some
  cases as with
  | nil =>
    have e := h0 rfl
    subst e
    refine (pe_methW0 ho F.cl h1 h5 hr h3 (fun σ => passAt tk σ) (meth_eval hpo hp hl hline)).weak fun σ H Q q => ?_
    obtain ⟨S, e, s, hS, Rr, p⟩ := meth_q hn q
    refine ⟨S, e, s, hS, Rr, p.mono fun y H1 hy => ?_⟩
    obtain ⟨a, dx, fs, e1, e2, e3, e4⟩ := hy
    exact ⟨a, dx, fs, e1, e2, e3, s_nil2 e4⟩
  | cons a as =>
    have hp' := hp
    rw [List.all_cons, Bool.and_eq_true] at hp'
    exact (pe_methW ho F.cl h1 h5 hr h3 (fun σ => passAt tk σ) ha (plain_star hp'.1 as X.env) (any_plain hp'.2) (meth_eval hpo hp hl hline)).weak fun σ H Q q => meth_q hn q

/-! ### a new instance -/
theorem HLo.ins {C dx : Addr} {fs : List (Str × V)} : HLo (.ins C dx fs) := ⟨fun _ e => (by cases e), fun _ e => (by cases e), fun _ e => (by cases e), fun _ _ e => (by cases e), fun _ e => (by cases e), fun _ e => (by cases e)⟩
theorem HLo.own {x : Addr} : HLo (.own x) := ⟨fun _ e => (by cases e), fun _ e => (by cases e), fun _ e => (by cases e), fun _ _ e => (by cases e), fun _ e => (by cases e), fun _ e => (by cases e)⟩
theorem made {S : Wd} {s : Store} {e : OI.Env} {σ : L2.St} {x dx : Addr} {k : String} (R : Rl c S e s σ) (hx : S.H x = none) (hd : S.H dx = none) (hne : dx ≠ x) :
    ∃ S', S'.H = L2.upd (L2.upd S.H dx (.own x)) x (.ins (c.icl k) dx []) ∧ S'.am[s.length]? = some x ∧ Rl c S' e (s ++ [⟨.ins k [], 0⟩]) σ ∧ StE S S' s (s ++ [⟨.ins k [], 0⟩]) := by
  have al1 := Al.lay R.toRlS (p := dx) (o := .own x) (q := none) hd (.inl rfl) HLo.own
  have R1 := al1.rl R
  have hx1 : (S.put dx (.own x) none).H x = none := (upd_ne (Ne.symm hne)).trans hx
  have al2 := Al.lay R1.toRlS (p := x) (o := .ins (c.icl k) dx []) (q := some .tmp) hx1 (.inr rfl) HLo.ins
  have R2 := al2.rl R1
  obtain ⟨S', hH, ha, R3, st3⟩ := grow (o := .ins k []) R2 put_ow fun S' hH f => ⟨dx, [], by rw [hH]; exact put_H, rfl, List.nodup_nil⟩
  exact ⟨S', hH, ha, R3, ((al1.ste R.dom s).trans R.dom (al2.ste R1.dom s)).trans R.dom st3⟩
structure NwI (X : Cx) (c : Cn) (R : Runs) (j : Nat) (k : String) (np : Nat) : Prop where
  mg : X.mg (Str.ofString k) = some (.ref (c.icl k))
  some : ∃ fa fd ps, Mk X.K (c.icl k) fa ∧ Binds X.K fd ps [] ∧ ps.length = np ∧ FnOk X.prog X.w X.K X.mg X.base (L2.CX X.prog X.w) j fa fd ps (spF c R (k ++ ".__init__") np)
theorem new_q {k : String} {np : Nat} {ias : IEs} {σ : L2.St} {H : Hp} {Q : VK} (hn : ias.len + 1 = np) (q : tE c W (ev R (.new k ias)) σ H Q) : tMakeW (c.icl k) (spF c R (k ++ ".__init__") np) (WE W) (tA c W (evs R ias)) σ H Q :=
  args_ok (k := newK R k) (rep := rM c) q fun S e s ds vs Rr r hl p x dx hx hd hne => by
    obtain ⟨S2, hH, ha, R2, st2⟩ := made (k := k) Rr hx hd hne
    rw [← hH]
    have p2 : PostG c W σ S2 (s ++ [⟨.ins k [], 0⟩]) (callK R (k ++ ".__init__") (.loc s.length :: ds) e (s ++ [⟨.ins k [], 0⟩])) (rM c σ) (fun v H2 => v = .non ∧ Q (.ref x) H2) := by
      unfold newK at p
      unfold callK
      cases hr : R (k ++ ".__init__") (.loc s.length :: ds) (s ++ [⟨.ins k [], 0⟩]) with
      | ok m s' =>
        rw [hr] at p
        have p : PostG c W σ S s (newE s.length m e s') (rM c σ) Q := p
        unfold newE at p
        split at p
        · intro S' y R' st' rp
          have p : PostG c W σ S s (.ok (.val (.loc s.length), .tmp) e s') (rM c σ) Q := p
          exact ⟨rp.1, p S' (.ref x) R' (st2.trans Rr.dom st') ⟨⟨x, rfl, st'.toFr.amAt ha⟩, trivial⟩⟩
        · exact p.elim
      | err k' s' =>
        rw [hr] at p
        exact fun S' R' st' => p S' R' (st2.trans Rr.dom st')
      | bad => rw [hr] at p; exact p
    have := call_of R2 (ds := .loc s.length :: ds) (vs := .ref x :: vs) ⟨.ref x, vs, rfl, ⟨x, rfl, ha⟩, r.mono st2.toFr⟩ p2
    rw [List.length_cons, hl, hn] at this
    exact this
theorem s_new {k : String} {np j : Nat} {as : List Expr} {ias : IEs} {np' pos : Pos} (F : NwI X c R j k np) (hr : Room (j + 1) X.A) (hg : Gl X (Str.ofString k)) (tk : Takes X W) (hn : ias.len + 1 = np) (hdb : (Str.ofString k == ("__debug__" : Str)) = false) (hp : as.all plainE = true)
    (ha : PA X as (tA c W (evs R ias))) (h0 : as = [] → ias = .nil) : PE X (.Call (.Name (Str.ofString k) np') as [] pos) (tE c W (ev R (.new k ias))) := by
  obtain ⟨fa, fd, ps, h1, h3, h4, h5⟩ := F.some
  cases as with
  | nil =>
    have e := h0 rfl
    subst e
    exact (pe_makeW0 h1 h5 hr hg F.mg h3 (fun σ => passAt tk σ) hdb).weak fun σ H Q q => s_nil2 (new_q hn q)
  | cons a as =>
    have hp' := hp
    rw [List.all_cons, Bool.and_eq_true] at hp'
    exact (pe_makeW h1 h5 hr hg F.mg h3 (fun σ => passAt tk σ) ha hdb (plain_star hp'.1 as X.env) (any_plain hp'.2)).weak fun σ H Q q => new_q hn q
end
end OI

/-! OIu3: fields stored, displays of dicts, list(range(..)), zip, range downwards. -/
namespace OI
open PySem PySem.Spec PyProof.Rows L2
section
variable {c : Cn} {W : WX} {σ : L2.St} {S S1 : Wd} {s s1 : Store} {e e1 : OI.Env}
/-- a container that nobody has yet waits; later it is that again -/
theorem pendT {m : M} {v : V} (R1 : Rl c S1 e1 s1 σ) (rp : RepM c S1 .tmp m v) : ∃ S1', Rl c S1' e1 s1 σ ∧ S1'.H = S1.H ∧ StE S1 S1' s1 s1 ∧
    ∀ S2 e2 s2, Rl c S2 e2 s2 σ → StE S1' S2 s1 s2 → ∃ S2t, S2t.H = S2.H ∧ S2t.am = S2.am ∧ Fr S2 S2t ∧ Rl c S2t e2 s2 σ ∧ StE S1 S2t s1 s2 ∧ RepM c S2t .tmp m v := by
  have main : ∀ p, S1.ow p = some .tmp → (∀ S2 : Wd, S2.H p = S1.H p → Fr S1 S2 → S2.ow p = some .tmp → RepM c S2 .tmp m v) → ∃ S1', Rl c S1' e1 s1 σ ∧ S1'.H = S1.H ∧ StE S1 S1' s1 s1 ∧
      ∀ S2 e2 s2, Rl c S2 e2 s2 σ → StE S1' S2 s1 s2 → ∃ S2t, S2t.H = S2.H ∧ S2t.am = S2.am ∧ Fr S2 S2t ∧ Rl c S2t e2 s2 σ ∧ StE S1 S2t s1 s2 ∧ RepM c S2t .tmp m v := fun p hp hm => by
    refine ⟨S1.lab p (some .oth), lab_tmp R1 hp, rfl, lab_ste hp, fun S2 e2 s2 R2 st => ?_⟩
    obtain ⟨hH, ho⟩ := st.oth p lab_same
    have ne : ∀ {a : Addr} {x : Pl}, S2.ow a = some x → x ≠ .oth → a ≠ p := fun h1 h2 z => by subst z; rw [ho] at h1; cases h1; exact h2 rfl
    have ne1 : ∀ {a : Addr} {x : Option Pl}, S1.ow a = x → x ≠ some .tmp → a ≠ p := fun h1 h2 z => by subst z; rw [hp] at h1; exact h2 h1.symm
    have R2t : Rl c (S2.lab p (some .tmp)) e2 s2 σ := R2.step (lab_fr (by rw [ho]; simp)) (fun a x n hx hn => ⟨rfl, by rw [lab_ne (ne hx (fun z => by subst z; cases hn))]; exact hx⟩) (fun a i hx => ⟨rfl, by rw [lab_ne (ne hx (by simp))]; exact hx⟩) rfl
      (lab_dom R2.dom (by rw [ho]; simp)) (lab_src R2.src (by intro x hx; cases hx; rfl)) R2.hl
    have fr : Fr S1 (S2.lab p (some .tmp)) := ⟨fun a o h1 h2 h3 => by
      have n := ne1 h2 (by simp)
      obtain ⟨x, y⟩ := st.keep a o h1 ((lab_ne n).trans h2) h3
      exact ⟨x, (lab_ne n).trans y⟩, st.am⟩
    refine ⟨S2.lab p (some .tmp), rfl, rfl, lab_fr (by rw [ho]; simp), R2t, ⟨⟨fr, st.ver, fun n en h1 h2 a q hq hn => ?_, fun a hq => ?_⟩, fun a i hq => ?_⟩, hm _ hH fr lab_same⟩
    · have nn := ne1 hq (by intro z; cases z; cases hn)
      obtain ⟨x, y⟩ := st.ent n en h1 h2 a q ((lab_ne nn).trans hq) hn
      exact ⟨x, (lab_ne nn).trans y⟩
    · have nn := ne1 hq (by simp)
      obtain ⟨x, y⟩ := st.oth a ((lab_ne nn).trans hq)
      exact ⟨x, (lab_ne nn).trans y⟩
    · have nn := ne1 hq (by simp)
      obtain ⟨x, y⟩ := st.slot a i ((lab_ne nn).trans hq)
      exact ⟨x, y.imp (fun h => (lab_ne nn).trans h) (fun h => ⟨(lab_ne nn).trans h.1, h.2⟩)⟩
  cases m with
  | val d => exact ⟨S1, R1, rfl, StE.refl _ _, fun S2 e2 s2 R2 st => ⟨S2, rfl, rfl, Fr.refl S2, R2, st, RepD.mono st.toFr rp⟩⟩
  | ol xs =>
    obtain ⟨p, vs, ev, h1, h2, h3⟩ := rp
    exact main p h2 fun S2 hH f ho => ⟨p, vs, ev, by rw [hH]; exact h1, ho, h3.mono f⟩
  | od t kvs =>
    obtain ⟨p, vs, ev, h1, h2, h3⟩ := rp
    exact main p h2 fun S2 hH f ho => ⟨p, vs, ev, by rw [hH]; exact h1, ho, h3.mono f⟩
/-- the content of what nobody has is exchanged -/
theorem tmp_upd {p : Addr} {o : HO} (R : Rl c S e s σ) (hp : S.ow p = some .tmp) (hpl : Pln p (S.H p)) (ho : HLo o) : Rl c (S.upd p o) e s σ ∧ StE S (S.upd p o) s s := by
  have hH : ∀ {b : Addr}, b ≠ p → (S.upd p o).H b = S.H b := fun hb => upd_ne hb
  have ne : ∀ {a : Addr} {x : Pl}, S.ow a = some x → x ≠ .tmp → a ≠ p := fun h1 h2 z => by subst z; rw [hp] at h1; cases h1; exact h2 rfl
  have fr : Fr S (S.upd p o) := ⟨fun b u h1 h2 _ => ⟨(hH (fun z => by subst z; rw [hp] at h2; cases h2)).trans h1, h2⟩, [], by simp [Wd.upd]⟩
  refine ⟨R.step fr (fun a x n hx hn => ⟨hH (ne hx (fun z => by subst z; cases hn)), hx⟩) (fun a i hx => ⟨hH (ne hx (by simp)), hx⟩) rfl (fun b hb => ?_) R.src (R.hl.put hpl ho), ⟨⟨fr, VerS.refl s, fun n en _ _ a x hx hn => ⟨hH (ne hx (fun z => by subst z; cases hn)), hx⟩, fun a hx => ⟨hH (ne hx (by simp)), hx⟩⟩, fun a i hx => ⟨hH (ne hx (by simp)), .inl hx⟩⟩⟩
  by_cases z : b = p
  · subst z
    exact dm_of (show L2.upd S.H b o b = some o from upd_same) ho
  · show Dm b (L2.upd S.H p o b)
    rw [upd_ne z]
    exact R.dom b hb

/-! ### a field stored -/
theorem fldPut_mem {f : String} {m : M} : ∀ {fs : List (String × M)} {g : String}, g ∈ (fldPut fs f m).map (·.1) → g = f ∨ g ∈ fs.map (·.1)
  | [], g, h => .inl (by simpa [fldPut] using h)
  | (a, b) :: r, g, h => by
    unfold fldPut at h
    split at h
    · exact .inr (by simpa using h)
    · rw [List.map_cons, List.mem_cons] at h
      rcases h with h | h
      · exact .inr (by rw [h]; exact List.mem_cons_self ..)
      · exact (fldPut_mem h).imp id fun h => List.mem_cons_of_mem _ h
theorem fldPut_nodup {f : String} {m : M} : ∀ {fs : List (String × M)}, (fs.map (·.1)).Nodup → ((fldPut fs f m).map (·.1)).Nodup
  | [], _ => by simp [fldPut]
  | (a, b) :: r, h => by
    rw [List.map_cons, List.nodup_cons] at h
    unfold fldPut
    split
    · rw [List.map_cons, List.nodup_cons]
      exact h
    · rename_i hne
      rw [List.map_cons, List.nodup_cons]
      refine ⟨fun hm => ?_, fldPut_nodup h.2⟩
      rcases fldPut_mem hm with z | z
      · exact hne (by simpa using z)
      · exact h.1 z
theorem fldPut_length {f : String} {m : M} : ∀ {fs : List (String × M)}, (fldPut fs f m).length ≤ fs.length + 1
  | [] => by simp [fldPut]
  | (a, b) :: r => by
    unfold fldPut
    split
    · simp
    · have := @fldPut_length f m r
      simp
      omega
theorem RepF.length {n : Nat} : ∀ {fs : List (String × M)} {gs : List (Str × V)}, RepF c S n fs gs → gs.length = fs.length
  | [], _, h => by rw [show _ = [] from h]; rfl
  | (f, m) :: r, _, ⟨v, q, e, _, h⟩ => by rw [e, List.length_cons, List.length_cons, RepF.length h]
theorem RepF.putN {S' : Wd} {n : Nat} {f : String} {m : M} {v : V} (fr : Fr S S') (k : ∀ b g, S.ow b = some (.fld n g) → S'.H b = S.H b ∧ S'.ow b = some (.fld n g)) (hm : RepM c S' (.fld n f) m v) : ∀ {fs : List (String × M)} {gs : List (Str × V)}, RepF c S n fs gs →
    RepF c S' n (fldPut fs f m) (putF (Str.ofString f) v gs)
  | [], gs, h => by
    rw [show gs = [] from h]
    exact ⟨v, [], rfl, hm, rfl⟩
  | (g, m') :: r, gs, ⟨w, q, e, h1, h2⟩ => by
    subst e
    unfold fldPut putF
    by_cases z : g = f
    · subst z
      rw [if_pos (by simp), if_pos rfl]
      exact ⟨v, q, rfl, hm, h2.step fr k⟩
    · rw [if_neg (by simpa using z), if_neg (fun w => z (ofString_inj w))]
      exact ⟨w, _, rfl, h1.step fr (fun b hb => k b g hb), RepF.putN fr k hm h2⟩
theorem fld_store {n w : Nat} {k f : String} {fs : List (String × M)} {a : Addr} {m : M} {v : V} (R : Rl c S e s σ) (hs : s[n]? = some ⟨.ins k fs, w⟩) (ha : S.am[n]? = some a) (rp : RepM c S .tmp m v) :
    ∃ dx gs, S.H a = some (.ins (c.icl k) dx gs) ∧ gs.length = fs.length ∧ ∃ S', S'.H = L2.upd S.H a (.ins (c.icl k) dx (putF (Str.ofString f) v gs)) ∧ Rl c S' e (s.set n ⟨.ins k (fldPut fs f m), w + 1⟩) σ ∧ StS [] S S' s (s.set n ⟨.ins k (fldPut fs f m), w + 1⟩) := by
  obtain ⟨ho, dx, gs, h1, h2, h3⟩ := Rl.locs R.toRlS ha hs
  refine ⟨dx, gs, h1, h2.length, ?_⟩
  have hlt := (List.getElem?_eq_some_iff.mp hs).1
  -- the new world
  have main : ∀ S' : Wd, S'.am = S.am → S'.H = L2.upd S.H a (.ins (c.icl k) dx (putF (Str.ofString f) v gs)) → (∀ b, S'.ow b = S.ow b ∨ (S.ow b = some .tmp ∧ S'.ow b = some (.fld n f))) → (Fr S S' → RepM c S' (.fld n f) m v) →
      ∃ S', S'.H = L2.upd S.H a (.ins (c.icl k) dx (putF (Str.ofString f) v gs)) ∧ Rl c S' e (s.set n ⟨.ins k (fldPut fs f m), w + 1⟩) σ ∧ StS [] S S' s (s.set n ⟨.ins k (fldPut fs f m), w + 1⟩) := fun S' ham hSH how hrep => by
    have hH : ∀ {b : Addr}, b ≠ a → S'.H b = S.H b := fun hb => by rw [hSH]; exact upd_ne hb
    have ne : ∀ {b : Addr} {q : Option Pl}, S.ow b = q → q ≠ some (.obj n) → b ≠ a := fun g1 g2 z => g2 (by rw [← g1, z]; exact ho)
    have ow : ∀ {b : Addr} {q : Option Pl}, S.ow b = q → q ≠ some .tmp → S'.ow b = q := fun {b q} h1 h2 => by
      rcases how b with e | ⟨e, _⟩
      · rw [e, h1]
      · exact absurd (h1.symm.trans e) h2
    have hla : S'.ow a = some (.obj n) := ow ho (by simp)
    have fr : Fr S S' := ⟨fun b u h1 h2 _ => ⟨(hH (ne h2 (by simp))).trans h1, ow h2 (by simp)⟩, [], by rw [ham, List.append_nil]⟩
    have hrep := hrep fr
    have hl : HL c S'.H := by rw [hSH]; exact R.hl.put (pln_ins h1) HLo.ins
    have dom : ∀ b, S'.ow b ≠ none → Dm b (S'.H b) := fun b hb => by
      by_cases z : b = a
      · subst z; exact dm_of (by rw [hSH, upd_same]) HLo.ins
      · rw [hH z]
        refine R.dom b fun z2 => hb (ow z2 (by simp))
    refine ⟨S', hSH, ⟨⟨by rw [List.length_set, ham]; exact R.len, fun j en hj => ?_, dom, fun b q j h1 h2 => ?_, hl⟩, R.elen, fun i m2 hi => ?_⟩, ⟨⟨fr, fun j en hj => ?_, fun j en hj1 hj2 b q hb hq => ?_, fun b hb => ⟨hH (ne hb (by simp)), ow hb (by simp)⟩⟩, fun b i _ hb => ⟨hH (ne hb (by simp)), .inl (ow hb (by simp))⟩⟩⟩
    · by_cases z : n = j
      · subst z
        rw [List.getElem?_set_self hlt] at hj
        cases hj
        exact ⟨a, by rw [ham]; exact ha, hla, dx, _, by rw [hSH, upd_same], h2.putN fr (fun b g hb => ⟨hH (ne hb (by simp)), ow hb (by simp)⟩) hrep, fldPut_nodup h3⟩
      · rw [List.getElem?_set_ne z] at hj
        obtain ⟨b, g1, g2, g3⟩ := R.obj j en hj
        exact ⟨b, by rw [ham]; exact g1, ow g2 (by simp), g3.step fr (hH (ne g2 (by intro w; cases w; exact z rfl))) fun b' g hb' => ⟨hH (ne hb' (by simp)), ow hb' (by simp)⟩⟩
    · rw [List.length_set]
      rcases how b with e | ⟨_, e⟩
      · rw [e] at h1; exact R.src b q j h1 h2
      · rw [e] at h1
        cases h1
        cases h2
        exact hlt
    · obtain ⟨v2, g1, g2⟩ := R.slot i m2 hi
      exact ⟨v2, g1, g2.step fr fun b hb => ⟨hH (ne hb (by simp)), ow hb (by simp)⟩⟩
    · by_cases z : n = j
      · subst z
        rw [hs] at hj
        cases hj
        exact ⟨_, List.getElem?_set_self hlt, Nat.le_succ _, fun e => absurd e (Nat.ne_of_lt (Nat.lt_succ_self w))⟩
      · exact ⟨en, by rw [List.getElem?_set_ne z]; exact hj, Nat.le_refl _, fun _ => rfl⟩
    · by_cases z : n = j
      · subst z
        rw [hs] at hj1
        cases hj1
        rw [List.getElem?_set_self hlt] at hj2
        exact absurd (congrArg Ent.v (Option.some.inj hj2)) (Nat.ne_of_gt (Nat.lt_succ_self w))
      · exact ⟨hH (ne hb (by intro w; cases w; cases hq; exact z rfl)), ow hb (by intro w; cases w; cases hq)⟩
  have own : ∀ p, S.ow p = some .tmp → (∀ S', S'.H p = S.H p → S'.ow p = some (.fld n f) → Fr S S' → RepM c S' (.fld n f) m v) → ∃ S', S'.H = L2.upd S.H a (.ins (c.icl k) dx (putF (Str.ofString f) v gs)) ∧ Rl c S' e (s.set n ⟨.ins k (fldPut fs f m), w + 1⟩) σ ∧ StS [] S S' s (s.set n ⟨.ins k (fldPut fs f m), w + 1⟩) := fun p hp hm => by
    have hpa : p ≠ a := fun z => by subst z; rw [ho] at hp; cases hp
    refine main ⟨S.am, fun b => if b = p then some (.fld n f) else S.ow b, L2.upd S.H a (.ins (c.icl k) dx (putF (Str.ofString f) v gs))⟩ rfl rfl (fun b => ?_) fun fr => hm _ (upd_ne hpa) (if_pos rfl) fr
    by_cases z : b = p
    · subst z; exact .inr ⟨hp, if_pos rfl⟩
    · exact .inl (if_neg z)
  cases m with
  | val d => exact main (S.upd a (.ins (c.icl k) dx (putF (Str.ofString f) v gs))) rfl rfl (fun b => .inl rfl) fun fr => RepD.mono fr rp
  | ol xs =>
    obtain ⟨p, vs, ev, g1, g2, g3⟩ := rp
    exact own p g2 fun S' hH ho f => ⟨p, vs, ev, by rw [hH]; exact g1, ho, g3.mono f⟩
  | od t kvs =>
    obtain ⟨p, vs, ev, g1, g2, g3⟩ := rp
    exact own p g2 fun S' hH ho f => ⟨p, vs, ev, by rw [hH]; exact g1, ho, g3.mono f⟩
end
section
variable {X : Cx} {c : Cn} {W : WX} {ws : List Nat} {R : Runs} {n : Nat} {pos pos' : Pos}
/-- o.f = a -/
theorem s_setA {f : String} {o a : Expr} {io ia : IE} (hC : ∀ k, Cls X.K (c.icl k)) (hA : ∀ k, NoAttr X.K (c.icl k) (Str.ofString f)) (hs : swapsWith a (some (.Attribute o (Str.ofString f) pos')) pos.line X.env = pure false) (ho : PE X o (tE c W (ev R io))) (ha : PE X a (tE c W (ev R ia))) :
    PS X (.Assign [.Attribute o (Str.ofString f) pos'] a pos) (tS c W ws (exec R n (.setA io f ia))) :=
  (ps_fld ho ha hs).weak fun D σ H q => by
    obtain ⟨S, e, s, rfl, Rr, p⟩ := q
    refine valM_full Rr p fun S1 e1 s1 m v R1 st1 rp p1 => ?_
    obtain ⟨S1', R1', hH1, st1', back⟩ := pendT R1 rp
    refine ⟨S1', e1, s1, hH1, R1', ?_⟩
    have p1' : PostS c W ws S1' s1 ((ev R io e1 s1).bind fun x e2 s2 => match x.1 with
      | .val (.loc n) => match s2[n]? with
        | some ⟨.ins c fs, v⟩ => if fs.length < 900 then .ok .nx (keep m e e2 s s2) (s2.set n ⟨.ins c (fldPut fs f m), v + 1⟩) else .bad
        | _ => .bad
      | _ => .bad) D := PostS.shift Rr.toRlS ((st1.trans Rr.dom st1').sts ws) p1
    refine PostS.bindE R1'.toRlS p1' fun x e2 s2 S2 y q1 R2 st2 rp2 _ => ?_
    rw [q1] at p1
    have p1 : PostS c W ws S s (match x.1 with
      | .val (.loc n) => match s2[n]? with
        | some ⟨.ins c fs, v⟩ => if fs.length < 900 then .ok .nx (keep m e e2 s s2) (s2.set n ⟨.ins c (fldPut fs f m), v + 1⟩) else .bad
        | _ => .bad
      | _ => .bad) D := p1
    split at p1
    · rename_i j hx
      split at p1
      · rename_i k fs w he
        split at p1
        · rename_i hl
          have r := rp2.1
          rw [hx] at r
          obtain ⟨ad, rfl, ham⟩ := r
          obtain ⟨S2t, hH, hAm, _, R2t, st2t, rp2t⟩ := back S2 e2 s2 R2 st2
          have stt := st1.trans Rr.dom st2t
          -- nothing was changed, and it is flat: the slots' own are back
          have fin : ∀ S3 e3, Rl c S3 e3 s2 σ → StE S S3 s s2 → S3.H = S2.H → S3.am[j]? = some ad → RepM c S3 .tmp m v → PostS c W ws S s (.ok .nx e3 (s2.set j ⟨.ins k (fldPut fs f m), w + 1⟩)) D →
              ∃ (a : Addr) (C dx : Addr) (fs : List (Str × V)), V.ref ad = V.ref a ∧ S2.H a = some (.ins C dx fs) ∧ Cls X.K C ∧ NoAttr X.K C (Str.ofString f) ∧ fs.length < 1000 ∧ D.nx σ (L2.upd S2.H a (.ins C dx (putF (Str.ofString f) v fs))) := fun S3 e3 R3 st3 hH3 ha3 rp3 p3 => by
            obtain ⟨dx, gs, g1, g2, S4, g3, R4, st4⟩ := fld_store (f := f) R3 he ha3 rp3
            rw [hH3] at g1 g3
            refine ⟨ad, c.icl k, dx, gs, rfl, g1, hC k, hA k, by omega, ?_⟩
            rw [← g3]
            exact p3 S4 σ R4 ((st3.sts ws).trans Rr.dom (st4.mono fun i hi => (nomatch hi)))
          unfold keep at p1
          by_cases hk : m.flat = true ∧ s2 = s
          · rw [if_pos hk] at p1
            obtain ⟨hf, rfl⟩ := hk
            obtain ⟨R3, st3⟩ := restore Rr R2t stt
            exact fin _ e R3 st3 hH (by show S2t.am[j]? = _; rw [hAm]; exact ham) (flat_rep hf rp2t) p1
          · rw [if_neg hk] at p1
            exact fin S2t e2 R2t stt hH (by rw [hAm]; exact ham) rp2t p1
        · exact p1.elim
      · exact p1.elim
    · exact p1.elim
end

/-! ### displays of dicts -/
section
variable {X : Cx} {c : Cn} {W : WX} {R : Runs}
def ptr (c : Cn) (W : WX) (R : Runs) : IPs → List (TE × TE)
  | .nil => []
  | .cons k v r => (tE c W (ev R k), tE c W (ev R v)) :: ptr c W R r
inductive RepPs (c : Cn) (S : Wd) : List (D × D) → List (V × V) → Prop where
  | nil : RepPs c S [] []
  | cons {k d : D} {x y : V} {ds : List (D × D)} {vs : List (V × V)} (hk : RepD c S k x) (hd : RepD c S d y) (r : RepPs c S ds vs) : RepPs c S ((k, d) :: ds) ((x, y) :: vs)
theorem RepPs.mono {S S' : Wd} (f : Fr S S') {ds : List (D × D)} {vs : List (V × V)} (h : RepPs c S ds vs) : RepPs c S' ds vs := by
  induction h with
  | nil => exact .nil
  | cons hk hd r ih => exact .cons (hk.mono f) (hd.mono f) ih
/-- an operand's value as data, and that its run gave it -/
theorem valD_eq {α β : Type} {fa : OI.Env → Store → Res (M × Pl)} {k : OI.D → OI.Env → Store → Res α} {rep : Wd → Store → α → β → Prop} {σ : L2.St} {Q : β → Hp → Prop} {rest : V → Hp → Prop} {S : Wd} {e : OI.Env} {s : Store} (Rr : Rl c S e s σ)
    (h : PostG c W σ S s ((valD fa e s).bind k) rep Q) (hr : ∀ S1 e1 s1 d v, valD fa e s = .ok d e1 s1 → Rl c S1 e1 s1 σ → StE S S1 s s1 → RepD c S1 d v → rest v S1.H) : tE c W fa σ S.H rest := by
  unfold valD at h
  rw [Res.bind_bind] at h
  refine ⟨S, e, s, rfl, Rr, PostG.bind Rr.toRlS h fun x e1 s1 S1 v q1 R1 st1 rp1 p1 => ?_⟩
  rcases vl_cases R1 rp1 with hb | ⟨S2, m, e2, he, R2, st2, hH, rp2⟩
  · rw [hb] at p1
    exact p1.elim
  · obtain ⟨S3, R3, hH3, hd, st3⟩ := frz_ste R2 rp2
    rw [← hH, ← hH3]
    refine hr S3 e2 s1 m.frz v ?_ R3 ((st1.trans Rr.dom st2).trans Rr.dom st3) hd
    unfold valD
    rw [q1]
    show (vl x.1 x.2 e1 s1).bind _ = _
    rw [he]
    rfl
theorem pairs_ok {α β : Type} {σ : L2.St} {rep : Wd → Store → α → β → Prop} {Q : β → Hp → Prop} {Sb : Wd} {sb : Store} (Rb : RlS c Sb sb) : ∀ (ps : IPs) {S : Wd} {e : OI.Env} {s : Store} {kk : List (OI.D × OI.D) → OI.Env → Store → Res α} {G : List (V × V) → Hp → Prop}, Rl c S e s σ → StE Sb S sb s → PostG c W σ Sb sb ((evk R ps e s).bind kk) rep Q →
    (∀ S1 e1 s1 qs vs, evk R ps e s = .ok qs e1 s1 → Rl c S1 e1 s1 σ → StE S S1 s s1 → RepPs c S1 qs vs → qs.length = ps.len → G vs S1.H) → tPairs (ptr c W R ps) σ S.H G
  | .nil, S, e, s, kk, G, Rr, stb, p, g => g S e s [] [] rfl Rr (StE.refl S s) .nil rfl
  | .cons a b r, S, e, s, kk, G, Rr, stb, p, g => by
    have p : PostG c W σ Sb sb (((valD (ev R a) e s).bind fun k e s => (valD (ev R b) e s).bind fun v e s => (evk R r e s).bind fun ps e s => .ok ((k, v) :: ps) e s).bind kk) rep Q := p
    rw [Res.bind_bind] at p
    refine valD_eq Rr (PostG.shift Rb stb p) fun S1 e1 s1 k x q1 R1 st1 rk => ?_
    rw [q1] at p
    have p : PostG c W σ Sb sb (((valD (ev R b) e1 s1).bind fun v e s => (evk R r e s).bind fun ps e s => .ok ((k, v) :: ps) e s).bind kk) rep Q := p
    rw [Res.bind_bind] at p
    have stb1 := stb.trans Rb.dom st1
    refine valD_eq R1 (PostG.shift Rb stb1 p) fun S2 e2 s2 d y q2 R2 st2 rd => ?_
    rw [q2] at p
    have p : PostG c W σ Sb sb (((evk R r e2 s2).bind fun ps e s => .ok ((k, d) :: ps) e s).bind kk) rep Q := p
    rw [Res.bind_bind] at p
    have stb2 := stb1.trans Rb.dom st2
    refine pairs_ok Rb r (kk := fun ps e s => (Res.ok ((k, d) :: ps) e s).bind kk) R2 stb2 p fun S3 e3 s3 qs vs q3 R3 st3 rq hl => ?_
    refine g S3 e3 s3 ((k, d) :: qs) ((x, y) :: vs) ?_ R3 ((st1.trans Rr.dom st2).trans Rr.dom st3) (.cons ((rk.mono st2.toFr).mono st3.toFr) (rd.mono st3.toFr) rq) (by rw [List.length_cons, hl]; rfl)
    show (valD (ev R a) e s).bind _ = _
    rw [q1]
    show (valD (ev R b) e1 s1).bind _ = _
    rw [q2]
    show (evk R r e2 s2).bind _ = _
    rw [q3]
    rfl
theorem RepPs.keys {S : Wd} {qs : List (OI.D × OI.D)} {vs : List (V × V)} (r : RepPs c S qs vs) (h : (qs.all fun p => keyOk false p.1) = true) : ∃ ws, RepKs c S false qs ws ∧ vs = (kpairs qs ws).map fun kv => (kV kv.1, kv.2) := by
  induction r with
  | nil => exact ⟨[], rfl, rfl⟩
  | @cons k d x y ds vs hk hd r ih =>
    rw [List.all_cons, Bool.and_eq_true] at h
    obtain ⟨ws, h1, h2⟩ := ih h.2
    refine ⟨y :: ws, ⟨h.1, y, ws, rfl, hd, h1⟩, ?_⟩
    rw [h2, keyOf_V h.1 hk]
    rfl
theorem RepPs.length {S : Wd} {qs : List (OI.D × OI.D)} {vs : List (V × V)} (r : RepPs c S qs vs) : vs.length = qs.length := by
  induction r with
  | nil => rfl
  | cons _ _ _ ih => rw [List.length_cons, List.length_cons, ih]
/-- {} -/
theorem s_dct0 {pos : Pos} : PE X (.Dict [] [] pos) (tE c W (ev R (.dct false .nil))) :=
  pe_dnewK.weak fun σ H Q q => by
    obtain ⟨S, e, s, rfl, Rr, p⟩ := q
    intro a na
    have al : Al c S (S.put a (.dK []) (some .tmp)) := Al.lay Rr.toRlS na (.inr rfl) (HLo.dK (Nat.zero_le _))
    exact end_al (m := .od false []) Rr p al ⟨a, [], rfl, put_H, put_ow, rfl⟩
theorem s_dct0N {pos : Pos} : PE X (.Dict [] [] pos) (tE c W (ev R (.dct true .nil))) :=
  NK.pe_dnewN.weak fun σ H Q q => by
    obtain ⟨S, e, s, rfl, Rr, p⟩ := q
    intro a na
    have al : Al c S (S.put a (.ext (NK.DicAt a [] (NK.weave [] 0))) (some .tmp)) := Al.lay Rr.toRlS na (.inr rfl) HLo.dN
    exact end_al (m := .od true []) Rr p al ⟨a, _, rfl, put_H, put_ow, 0, rfl⟩
theorem len_dmerge : ∀ (more kvs : List (OI.D × OI.D)), (dmerge kvs more).length ≤ kvs.length + more.length
  | [], kvs => by show kvs.length ≤ kvs.length + 0; omega
  | p :: r, kvs => by
    have h1 := len_dmerge r (dput kvs p.1 p.2)
    have h2 : (dput kvs p.1 p.2).length ≤ kvs.length + 1 := by
      unfold dput
      split
      · rw [List.length_map]; omega
      · rw [List.length_append, List.length_singleton]; exact Nat.le_refl _
    show (dmerge (dput kvs p.1 p.2) r).length ≤ _
    rw [List.length_cons]; omega
/-- {k: v, ..} -/
theorem s_dct {pos : Pos} {keys : List (Option Expr)} {values : List Expr} {ps : IPs} (h : PPs X pos keys values (ptr c W R ps)) (hall : keys.all (·.isSome) = true) (hl : keys.length = values.length) (h0 : keys ≠ []) (h15 : keys.length ≤ 15) (hn : ps.len ≤ 15) :
    PE X (.Dict keys values pos) (tE c W (ev R (.dct false ps))) :=
  (pe_disp h hall hl h0 h15).weak fun σ H Q q => by
    obtain ⟨S, e, s, rfl, Rr, p⟩ := q
    intro a na
    have al : Al c S (S.put a (.dK []) (some .tmp)) := Al.lay Rr.toRlS na (.inr rfl) (HLo.dK (Nat.zero_le _))
    have R1 := al.rl Rr
    have r0 : RepM c (S.put a (.dK []) (some .tmp)) .tmp (.od false []) (.ref a) := ⟨a, [], rfl, put_H, put_ow, rfl⟩
    obtain ⟨S1', R1', hH, st1', back⟩ := pendT R1 r0
    have goal := pairs_ok Rr.toRlS ps (kk := dctK false) R1' ((al.ste Rr.dom s).trans Rr.dom st1') p (G := fun ps H2 => H2 a = some (.dK []) ∧ ∃ kvs : List (Key × V), ps = kvs.map (fun kv => (kV kv.1, kv.2)) ∧ kvs.length ≤ 15 ∧ Q (.ref a) (L2.upd H2 a (.dK (mergeK [] kvs)))) fun S2 e2 s2 qs vs q2 R2 st2 rq hlen => by
      obtain ⟨S3, hH3, hAm3, f23, R3, st3, r3⟩ := back S2 e2 s2 R2 st2
      have p2 : PostG c W σ S s ((evk R ps e s).bind (dctK false)) (rM c σ) Q := p
      rw [q2] at p2
      have p2 : PostG c W σ S s (dctK false qs e2 s2) (rM c σ) Q := p2
      unfold dctK at p2
      split at p2
      · rename_i hk
        obtain ⟨a', vs0, ea, h1, h2, h3⟩ := r3
        cases ea
        have h3 : vs0 = [] := h3
        subst h3
        obtain ⟨ws, k1, k2⟩ := rq.keys hk
        have k1 := k1.mono f23
        obtain ⟨vs', m1, m2⟩ := kmerge (kvs := []) (vs := []) (c := c) (S := S3) rfl k1
        have hlq : (dmerge [] qs).length ≤ 15 := by
          have := len_dmerge qs []
          rw [List.length_nil] at this
          omega
        obtain ⟨R4, st4⟩ := tmp_upd R3 h2 (pln_dHO h1) (o := dHO c a false ((dmerge [] qs).map (·.1)) vs') (HLo.dK (by
          rw [List.length_map, List.length_zip, List.length_map, m1.length]
          omega))
        have := p2 _ (.ref a) R4 (((al.ste Rr.dom s).trans Rr.dom st3).trans Rr.dom st4) ⟨⟨a, vs', rfl, upd_same, h2, m1.mono st4.toFr⟩, trivial⟩
        rw [← hH3]
        refine ⟨h1, kpairs qs ws, k2, by rw [List.length_map, List.length_zip, List.length_map, k1.length]; omega, ?_⟩
        have e : (HO.dK (mergeK [] (kpairs qs ws))) = dHO c a false ((dmerge [] qs).map (·.1)) vs' := by
          show HO.dK _ = HO.dK (kpairs (dmerge [] qs) vs')
          rw [m2]
          rfl
        rw [e]
        exact this
      · exact p2.elim
    rw [hH] at goal
    exact goal
end
end OI

/-! OIu4: list(range(..)), zip, range downwards, chains of three. -/
namespace OI
open PySem PySem.Spec PyProof.Rows L2 RZ
section
variable {X : Cx} {c : Cn} {W : WX} {R : Runs} {tg a a2 a3 : Expr} {ia ib ic : IE} {p lp pos : Pos}
theorem rgV_rep {S : Wd} {i j : Int} : RepDs c S (rng i j) (rgV i j) := by
  unfold rng rgV
  generalize List.range (j - i).toNat = l
  induction l with
  | nil => rfl
  | cons k l ih => exact ⟨_, _, rfl, rfl, ih⟩
/-- list(range(a, b)) -/
theorem s_lrange {pos2 : Pos} (hc : X.calm = true) (hgl : Gl X "list") (hml : X.mg "list" = none) (hg : Gl X "range") (hm : X.mg "range" = none) (hp : plainE a = true) (ha : PE X a (tE c W (ev R ia))) (hp2 : plainE a2 = true) (hb : PE X a2 (tE c W (ev R ib))) :
    PE X (.Call (.Name "list" lp) [.Call (.Name "range" p) [a, a2] [] pos2] [] pos) (tE c W (ev R (.lrange ia ib))) :=
  (pe_listRg hc hgl hml (prg_2 hg hm ha hb (plain_star hp [a2] X.env) (star1 hp2) (any1 hp2)) rfl).weak fun σ H Q q => two_ok q fun S e s m1 m2 x y Rr r1 r2 p => by
    unfold lrangeK at p
    obtain ⟨i, rfl, h1, h2, p⟩ := getI_ok p
    obtain ⟨j, rfl, h3, h4, p⟩ := getI_ok p
    split at p
    · rename_i hr
      have hr := of_decide_eq_true hr
      refine ⟨i, j, r1, r2, ⟨h1, h2, h3, h4, by omega⟩, fun a na => ?_⟩
      obtain ⟨S', al, hH, rp⟩ := new_lst (ds := rng i j) (vs := rgV i j) Rr.toRlS na rgV_rep (by rw [rgV_length]; omega)
      have := end_al Rr p al rp
      rw [hH] at this
      exact this
    · exact p.elim
theorem still_trans {l : List Src} {s s1 s2 : Store} (h1 : still l s s1 = true) (h2 : still l s1 s2 = true) : still l s s2 = true := by
  unfold still at *
  rw [List.all_eq_true] at *
  intro w hw
  have a := h1 w hw
  have b := h2 w hw
  cases w with
  | ent n => exact decide_eq_true ((of_decide_eq_true a).trans (of_decide_eq_true b))
  | slot i => rfl
theorem still_app {l l' : List Src} {s s1 : Store} (h : still (l ++ l') s s1 = true) : still l s s1 = true ∧ still l' s s1 = true := by
  unfold still at *
  rw [List.all_append, Bool.and_eq_true] at h
  exact h
theorem apart_app {l l' : List Src} {ws : List Nat} (h : apart (l ++ l') ws = true) : apart l ws = true ∧ apart l' ws = true := by
  unfold apart at *
  rw [List.all_append, Bool.and_eq_true] at h
  exact h
theorem still_refl (l : List Src) (s : Store) : still l s s = true := by
  unfold still
  rw [List.all_eq_true]
  intro w _
  cases w <;> simp
theorem apart_nil (l : List Src) : apart l [] = true := by
  unfold apart
  rw [List.all_eq_true]
  intro w _
  cases w <;> simp
theorem pairs_how {m1 m2 : M} {ds : List D} (h : pairs m1 m2 = some ds) : (∃ xs ys, m1 = .val (.tup xs) ∧ m2 = .val (.tup ys) ∧ ds = (xs.zip ys).map fun p => .tup [p.1, p.2]) ∨ ∃ xs ys, m1.lst? = some xs ∧ m2.lst? = some ys ∧ ds = (xs.zip ys).map fun p => .tup [p.1, p.2] := by
  unfold pairs at h
  split at h
  · cases h; exact .inl ⟨_, _, rfl, rfl, rfl⟩
  · split at h
    · rename_i xs ys h1 h2
      cases h
      exact .inr ⟨xs, ys, h1, h2, rfl⟩
    · cases h
theorem zip_get {xs ys : List D} {i : Nat} {d : D} (h : ((xs.zip ys).map fun p => D.tup [p.1, p.2])[i]? = some d) : ∃ x y, xs[i]? = some x ∧ ys[i]? = some y ∧ d = .tup [x, y] := by
  rw [List.getElem?_map] at h
  cases e : (xs.zip ys)[i]? with
  | none => rw [e] at h; cases h
  | some p =>
    rw [e] at h
    obtain ⟨x, y⟩ := p
    rw [List.getElem?_zip_eq_some] at e
    exact ⟨x, y, e.1, e.2, (Option.some.inj h).symm⟩
theorem zip_stop {xs ys : List D} {i : Nat} (h : ((xs.zip ys).map fun p => D.tup [p.1, p.2]).length ≤ i) : xs.length ≤ i ∨ ys.length ≤ i := by
  rw [List.length_map, List.length_zip] at h
  omega
section
variable {S : Wd}
theorem gives_zip {a b : Addr} {xs ys : List D} {vs ws : List V} {K : PySem.W.Frag} (hK : K = c.K) (h1 : SqL c.K S.H a vs) (r1 : RepDs c S xs vs) (h2 : SqL c.K S.H b ws) (r2 : RepDs c S ys ws) : WalksAt c (Itz K a b) ((xs.zip ys).map fun p => .tup [p.1, p.2]) S where
  go := fun i d hd => by
    obtain ⟨x, y, hx, hy, _⟩ := zip_get hd
    obtain ⟨v, hv, _⟩ := r1.get hx
    obtain ⟨w, hw, _⟩ := r2.get hy
    rw [hK]
    exact ⟨vs, ws, v, w, h1, h2, hv, hw⟩
  yld := fun i d s x H' hd Rr hy => by
    obtain ⟨T, v, w, rfl, hT, rfl, q1, q2⟩ := hy
    rw [hK] at q1 q2
    obtain ⟨dx, dy, hx, hy, rfl⟩ := zip_get hd
    obtain ⟨v', hv, rv⟩ := r1.get hx
    obtain ⟨w', hw, rw'⟩ := r2.get hy
    have e1 := q1 vs h1
    have e2 := q2 ws h2
    rw [hv] at e1
    rw [hw] at e2
    cases e1
    cases e2
    obtain ⟨S', al, hH, rp⟩ := new_tup Rr hT (ds := [dx, dy]) (vs := [v, w]) ⟨_, _, rfl, rv, _, _, rfl, rw', rfl⟩ (by simp)
    exact ⟨S', al, hH, rp⟩
  stop := fun i hi => by
    rw [hK]
    refine ⟨vs, ws, h1, h2, ?_⟩
    rw [r1.length, r2.length]
    exact zip_stop hi
theorem gives_zipT {a b : Addr} {xs ys : List D} {vs ws : List V} {K : PySem.W.Frag} (hK : K = c.K) (h1 : SqT c.K S.H a vs) (r1 : RepDs c S xs vs) (h2 : SqT c.K S.H b ws) (r2 : RepDs c S ys ws) : WalksAt c (ItzT K a b) ((xs.zip ys).map fun p => .tup [p.1, p.2]) S where
  go := fun i d hd => by
    obtain ⟨x, y, hx, hy, _⟩ := zip_get hd
    obtain ⟨v, hv, _⟩ := r1.get hx
    obtain ⟨w, hw, _⟩ := r2.get hy
    rw [hK]
    exact ⟨vs, ws, v, w, h1, h2, hv, hw⟩
  yld := fun i d s x H' hd Rr hy => by
    obtain ⟨T, v, w, rfl, hT, rfl, q1, q2⟩ := hy
    rw [hK] at q1 q2
    obtain ⟨dx, dy, hx, hy, rfl⟩ := zip_get hd
    obtain ⟨v', hv, rv⟩ := r1.get hx
    obtain ⟨w', hw, rw'⟩ := r2.get hy
    have e1 := q1 vs h1
    have e2 := q2 ws h2
    rw [hv] at e1
    rw [hw] at e2
    cases e1
    cases e2
    obtain ⟨S', al, hH, rp⟩ := new_tup Rr hT (ds := [dx, dy]) (vs := [v, w]) ⟨_, _, rfl, rv, _, _, rfl, rw', rfl⟩ (by simp)
    exact ⟨S', al, hH, rp⟩
  stop := fun i hi => by
    rw [hK]
    refine ⟨vs, ws, h1, h2, ?_⟩
    rw [r1.length, r2.length]
    exact zip_stop hi
theorem gives_down {i j : Int} : WalksAt c (Itc i (-1) (i - j).toNat) (rngDown i j) S where
  go := fun k d hd => by
    have h1 := (List.getElem?_eq_some_iff.mp hd).1
    unfold rngDown at h1
    rw [List.length_map, List.length_range] at h1
    exact h1
  yld := fun k d s x H' hd Rr hy => by
    obtain ⟨e, hx⟩ := hy
    have hlt := (List.getElem?_eq_some_iff.mp hd).1
    have : d = .int (i - (k : Nat)) := by
      unfold rngDown at hd hlt
      rw [List.length_map, List.length_range] at hlt
      rw [List.getElem?_map, List.getElem?_range hlt] at hd
      exact (Option.some.inj hd).symm
    subst this
    refine ⟨S, Al.refl Rr, e.symm, ?_⟩
    rw [hx]
    show V.int _ = V.int _
    congr 1
    omega
  stop := fun k hl => by
    show (i - j).toNat ≤ k
    unfold rngDown at hl
    rw [List.length_map, List.length_range] at hl
    exact hl
end
/-- zip(a, b) -/
theorem s_zip {elts : List Expr} {kk : Nat} {tpos : Pos} (hK : X.K = c.K) (hg : Gl X "zip") (hm : X.mg "zip" = none) (hp : plainE a = true) (ha : PE X a (tE c W (ev R ia))) (hp2 : plainE a2 = true) (hb : PE X a2 (tE c W (ev R ib))) :
    PI X (.Tuple elts kk tpos) (.Call (.Name "zip" p) [a, a2] [] pos) (tI c W (evi R (.zip ia ib))) :=
  (pi_zipA hg hm (pa2 hp ha hp2 hb) (plain_star hp [a2] X.env) (any1 hp2)).weak fun σ H Q q => by
    obtain ⟨S, e, s, rfl, Rr, p⟩ := q
    refine ⟨S, e, s, rfl, Rr, PostG.bind Rr.toRlS p fun x1 e1 s1 S1 v1 q1 R1 st1 rp1 p1 => ?_⟩
    obtain ⟨S1', pl1, R1', hH1, _, rp1', hpl1, _, hwk1, st1'⟩ := pend R1 rp1.1
    replace p1 := PostG.shift R1.toRlS st1' p1
    refine ⟨S1', e1, s1, hH1, R1', PostG.bind R1'.toRlS p1 fun x2 e2 s2 S2 v2 q2 R2 st2 rp2 p2 => ?_⟩
    obtain ⟨S2', pl2, R2', hH2, _, rp2', hpl2, _, hwk2, st2'⟩ := pend R2 rp2.1
    replace p2 := PostG.shift R2.toRlS st2' p2
    unfold zipK at p2
    rw [← hwk1, ← hwk2] at p2
    split at p2
    · rename_i hst
      split at p2
      · rename_i ps hps
        have st12 := st2.trans R1'.dom st2'
        have hx : ∀ ws S' s', StS ws S2' S' s2 s' → still ((wk x1.1 pl1 s1).2 ++ (wk x2.1 pl2 s2).2) s2 s' = true → apart ((wk x1.1 pl1 s1).2 ++ (wk x2.1 pl2 s2).2) ws = true → RepV c S' (wk x1.1 pl1 s1).1 v1 ∧ RepV c S' (wk x2.1 pl2 s2).1 v2 := fun ws S' s' st k ha => by
          obtain ⟨k1, k2⟩ := still_app k
          obtain ⟨a1, a2⟩ := apart_app ha
          exact ⟨wk_keep R1'.toRlS rp1' hpl1 ((st12.sts ws).trans R1'.dom st) (still_trans hst k1) a1, wk_keep R2'.toRlS rp2' hpl2 st k2 a2⟩
        obtain ⟨g1, g2⟩ := hx [] S2' s2 (StS.refl _ _ _) (still_refl _ _) (apart_nil _)
        rw [← hH2]
        show ∃ a b xs ys, [v1, v2] = [.ref a, .ref b] ∧ _
        rcases pairs_how hps with ⟨xs, ys, w1, w2, rfl⟩ | ⟨xs, ys, w1, w2, rfl⟩
        · rw [w1] at g1
          rw [w2] at g2
          obtain ⟨a1, us1, rfl, f1, d1⟩ := g1
          obtain ⟨a2, us2, rfl, f2, d2⟩ := g2
          refine ⟨a1, a2, us1, us2, rfl, .inr ⟨by rw [hK]; exact f1.sq, by rw [hK]; exact f2.sq, p2 S2' _ R2' (StE.refl _ _) fun ws S' s' st k ha => ?_⟩⟩
          obtain ⟨z1, z2⟩ := hx ws S' s' st k ha
          rw [w1] at z1
          rw [w2] at z2
          obtain ⟨b1, ws1, e1, f1', d1'⟩ := z1
          obtain ⟨b2, ws2, e2, f2', d2'⟩ := z2
          cases e1
          cases e2
          exact gives_zipT hK f1'.sq d1' f2'.sq d2'
        · obtain ⟨a1, us1, rfl, f1, d1⟩ := lst_of w1 g1
          obtain ⟨a2, us2, rfl, f2, d2⟩ := lst_of w2 g2
          refine ⟨a1, a2, us1, us2, rfl, .inl ⟨by rw [hK]; exact f1, by rw [hK]; exact f2, p2 S2' _ R2' (StE.refl _ _) fun ws S' s' st k ha => ?_⟩⟩
          obtain ⟨z1, z2⟩ := hx ws S' s' st k ha
          obtain ⟨b1, ws1, e1, f1', d1'⟩ := lst_of w1 z1
          obtain ⟨b2, ws2, e2, f2', d2'⟩ := lst_of w2 z2
          cases e1
          cases e2
          exact gives_zip hK f1' d1' f2' d2'
      · exact p2.elim
    · exact p2.elim
/-- range(a, b, -1) -/
theorem s_rng3 (hg : Gl X "range") (hm : X.mg "range" = none) (hp : plainE a = true) (ha : PE X a (tE c W (ev R ia))) (hp2 : plainE a2 = true) (hb : PE X a2 (tE c W (ev R ib))) (hp3 : plainE a3 = true) (hc : PE X a3 (tE c W (ev R ic))) :
    PI X tg (.Call (.Name "range" p) [a, a2, a3] [] pos) (tI c W (evi R (.rng3 ia ib ic))) :=
  (pi_range3 hg hm (pa3 hp ha hp2 hb hp3 hc) (plain_star hp [a2, a3] X.env) (any2 hp2 hp3)).weak fun σ H Q q => by
    obtain ⟨S, e, s, rfl, Rr, p⟩ := q
    refine ⟨S, e, s, rfl, Rr, PostG.bind Rr.toRlS p fun x1 e1 s1 S1 v1 q1 R1 st1 rp1 p1 => ?_⟩
    obtain ⟨S1', pl', R1', hH, ham, rp1', hpl, hbw, _, st1'⟩ := pend R1 rp1.1
    replace p1 := PostG.shift R1.toRlS st1' p1
    refine ⟨S1', e1, s1, hH, R1', PostG.bind R1'.toRlS p1 fun x2 e2 s2 S2 v2 q2 R2 st2 rp2 p2 => ?_⟩
    obtain ⟨S2', pl2', R2', hH2, ham2, rp2', hpl2, hbw2, _, st2'⟩ := pend R2 rp2.1
    replace p2 := PostG.shift R2.toRlS st2' p2
    refine ⟨S2', e2, s2, hH2, R2', PostG.bind R2'.toRlS p2 fun x3 e3 s3 S3 v3 q3 R3 st3 rp3 p3 => ?_⟩
    split at p3
    · rename_i hs
      rw [Bool.and_eq_true] at hs
      obtain ⟨hs1, hs2⟩ := hs
      rw [← hbw] at hs1 p3
      rw [← hbw2] at hs2 p3
      have r1 := bw_keep R1'.toRlS rp1' hpl ((st2.trans R1'.dom st2').trans R1'.dom st3) hs1
      have r2 := bw_keep R2'.toRlS rp2' hpl2 st3 hs2
      have r3 := bw_view R3.toRlS rp3.1
      unfold rng3K at p3
      obtain ⟨i, z1, h1, h2, p3⟩ := getI_ok p3
      obtain ⟨j, z2, h3, h4, p3⟩ := getI_ok p3
      obtain ⟨k, z3, h5, h6, p3⟩ := getI_ok p3
      rw [z1] at r1
      rw [z2] at r2
      rw [z3] at r3
      split at p3
      · rename_i hk
        subst hk
        refine ⟨i, j, -1, (i - j).toNat, by rw [show v1 = V.int i from r1, show v2 = V.int j from r2, show v3 = V.int (-1) from r3], RgC.neg h1 h2 h3 h4, p3 S3 _ R3 (StE.refl _ _) fun ws S' s' _ _ _ => gives_down⟩
      · exact p3.elim
    · exact p3.elim
/-! a op b op2 c op3 d -/
def tChain3 (r r' r'' : R2) (ta tb tc td : TE) : TE := fun σ H Q => ta σ H fun x H1 => tb σ H1 fun y H2 => r x y H2 fun z H3 => ∃ k, z = .bl k ∧
  (if k = true then tc σ H3 fun w H4 => r' y w H4 fun z' H5 => ∃ k', z' = .bl k' ∧ (if k' = true then td σ H5 fun u H6 => r'' w u H6 Q else Q (.bl false) H5) else Q (.bl false) H3)
theorem pe_chain3 {op op' op'' : CmpOp} {r r' r'' : R2} {a b d d2 : Expr} {ta tb tc td : TE} (ho : OpR X (compareOp op) r) (ho' : OpR X (compareOp op') r') (ho'' : OpR X (compareOp op'') r'') (ha : PE X a ta) (hb : PE X b tb) (hc : PE X d tc) (hd : PE X d2 td)
    (hm : lastMarks [op, op', op''] [b, d, d2] = false) : PE X (.Compare a [op, op', op''] [b, d, d2] pos) (tChain3 r r' r'' ta tb tc td) := by
  refine ⟨fun pins s σ H Q I h => ?_⟩
  refine Compare_chain (thn (ha.run pins s σ H _ I h) fun v s1 ⟨x, H1, I1, r1, q1⟩ => chain_link (thn (hb.run pins s1 σ H1 _ I1 q1) fun u s2 ⟨y, H2, I2, r2, q2⟩ =>
    thn (ho pins s2 σ H2 x y v u _ I2 r1 r2 q2) fun dd s3 ⟨z, H3, I3, r3, k, e, q3⟩ => ?_)) hm
  subst e
  cases r3
  refine wpAny_truthy_bool ?_
  cases k with
  | false => exact ite_ff ⟨.bl false, H3, I3, rfl, q3⟩
  | true =>
    refine ite_tt (chain_link (thn (hc.run pins s3 σ H3 _ I3 q3) fun w' s4 ⟨z', H4, I4, r4, q4⟩ => thn (ho' pins s4 σ H4 y z' u w' _ I4 r2 r4 q4) fun dd s5 ⟨z5, H5, I5, r5, k', e, q5⟩ => ?_))
    subst e
    cases r5
    refine wpAny_truthy_bool ?_
    cases k' with
    | false => exact ite_ff ⟨.bl false, H5, I5, rfl, q5⟩
    | true => exact ite_tt (chain_last (thn (hd.run pins s5 σ H5 _ I5 q5) fun w6 s6 ⟨z6, H6, I6, r6, q6⟩ => ho'' pins s6 σ H6 z' z6 w' w6 Q I6 r4 r6 q6))
theorem pt_chain3 {op op' op'' : CmpOp} {r r' r'' : R2} {a b d d2 : Expr} {ta tb tc td : TE} (ho : OpR X (compareOp op) r) (ho' : OpR X (compareOp op') r') (ho'' : OpR X (compareOp op'') r'') (ha : PE X a ta) (hb : PE X b tb) (hc : PE X d tc) (hd : PE X d2 td)
    (hm : lastMarks [op, op', op''] [b, d, d2] = false) : PT X (.Compare a [op, op', op''] [b, d, d2] pos) (tTest (tChain3 r r' r'' ta tb tc td)) := by
  refine ⟨fun pins s σ H Q I h => ?_⟩
  refine isTrue_chain (thn (ha.run pins s σ H _ I h) fun v s1 ⟨x, H1, I1, r1, q1⟩ => test_link (thn (hb.run pins s1 σ H1 _ I1 q1) fun u s2 ⟨y, H2, I2, r2, q2⟩ =>
    thn (ho pins s2 σ H2 x y v u _ I2 r1 r2 q2) fun dd s3 ⟨z, H3, I3, r3, k, e, q3⟩ => ?_)) hm
  subst e
  cases r3
  refine wpAny_truthy_bool ?_
  cases k with
  | false =>
    obtain ⟨k', e', q'⟩ := q3
    cases e'
    exact ite_ff ⟨H3, I3, q'⟩
  | true =>
    refine ite_tt (test_link (thn (hc.run pins s3 σ H3 _ I3 q3) fun w' s4 ⟨z', H4, I4, r4, q4⟩ => thn (ho' pins s4 σ H4 y z' u w' _ I4 r2 r4 q4) fun dd s5 ⟨z5, H5, I5, r5, k', e, q5⟩ => ?_))
    subst e
    cases r5
    refine wpAny_truthy_bool ?_
    cases k' with
    | false =>
      obtain ⟨k2, e', q'⟩ := q5
      cases e'
      exact ite_ff ⟨H5, I5, q'⟩
    | true =>
      refine ite_tt (test_last (thn (hd.run pins s5 σ H5 _ I5 q5) fun w6 s6 ⟨z6, H6, I6, r6, q6⟩ => thn (ho'' pins s6 σ H6 z' z6 w' w6 _ I6 r4 r6 q6) fun d' s7 ⟨z7, H7, I7, r7, k2, e2, q7⟩ => ?_))
      subst e2
      cases r7
      exact wpAny_truthy_bool ⟨H7, I7, q7⟩
theorem val_keep {S S' : Wd} {m : M} {v : V} (hv : m.isVal = true) (f : Fr S S') (r : RepV c S m v) : RepV c S' m v := by
  cases m with
  | val d => exact RepD.mono f r
  | ol xs => cases hv
  | od t kvs => cases hv
theorem chain3_ok {op op2 op3 : COp} {ja jb jc jd : IE} {σ : L2.St} {H : Hp} {Q : VK} (q : tE c W (ev R (.chain3 op op2 op3 ja jb jc jd)) σ H Q) : tChain3 (R2b c (cmp op)) (R2b c (cmp op2)) (R2b c (cmp op3)) (tE c W (ev R ja)) (tE c W (ev R jb)) (tE c W (ev R jc)) (tE c W (ev R jd)) σ H Q := by
  obtain ⟨S, e, s, rfl, Rr, p⟩ := q
  refine ⟨S, e, s, rfl, Rr, PostG.bind Rr.toRlS p fun x1 e1 s1 S1 v1 q1 R1 st1 rp1 p1 => ?_⟩
  obtain ⟨S1', pl', R1', hH, ham, rp1', hpl, hbw, _, st1'⟩ := pend R1 rp1.1
  replace p1 := PostG.shift R1.toRlS st1' p1
  refine ⟨S1', e1, s1, hH, R1', PostG.bind R1'.toRlS p1 fun x2 e2 s2 S2 v2 q2 R2 st2 rp2 p2 => ?_⟩
  split at p2
  · rename_i hs
    rw [← hbw] at hs p2
    have rx := bw_keep R1'.toRlS rp1' hpl st2 hs
    have ry := bw_view R2.toRlS rp2.1
    generalize (bw x1.1 pl' s1).1 = m1 at rx p2
    generalize (bw x2.1 x2.2 s2).1 = m2 at ry p2
    unfold valK at p2
    dsimp only at p2
    split at p2
    · rename_i hv
      unfold chainK at p2
      split at p2
      · rename_i hc
        refine ⟨S2, s2, m1, m2, true, rfl, R2.toRlS, rx, ry, hc, true, rfl, ?_⟩
        rw [if_pos rfl]
        refine ⟨S2, e2, s2, rfl, R2, PostG.bind R2.toRlS p2 fun x3 e3 s3 S3 v3 q3 R3 st3 rp3 p3 => ?_⟩
        have rz := bw_view R3.toRlS rp3.1
        have ry' := val_keep hv st3.toFr ry
        dsimp only at p3
        generalize (bw x3.1 x3.2 s3).1 = m3 at rz p3
        split at p3
        · rename_i hv3
          split at p3
          · rename_i hc2
            refine ⟨S3, s3, m2, m3, true, rfl, R3.toRlS, ry', rz, hc2, true, rfl, ?_⟩
            rw [if_pos rfl]
            refine ⟨S3, e3, s3, rfl, R3, PostG.bind R3.toRlS p3 fun x4 e4 s4 S4 v4 q4 R4 st4 rp4 p4 => ?_⟩
            obtain ⟨b3, hb3, p4⟩ := outB_ok p4
            exact ⟨S4, s4, m3, _, b3, rfl, R4.toRlS, val_keep hv3 st4.toFr rz, bw_view R4.toRlS rp4.1, hb3, end_val R4 p4 rfl⟩
          · rename_i hc2
            refine ⟨S3, s3, m2, m3, false, rfl, R3.toRlS, ry', rz, hc2, false, rfl, ?_⟩
            rw [if_neg Bool.false_ne_true]
            exact end_val R3 p3 rfl
          · exact p3.elim
        · exact p3.elim
      · rename_i hc
        refine ⟨S2, s2, m1, m2, false, rfl, R2.toRlS, rx, ry, hc, false, rfl, ?_⟩
        rw [if_neg Bool.false_ne_true]
        exact end_val R2 p2 rfl
      · exact p2.elim
    · exact p2.elim
  · exact p2.elim
theorem s_chain3 {op op2 op3 : COp} {o o2 o3 : CmpOp} {a b d d2 : Expr} {ja jb jc jd : IE} (ho : OpR X (compareOp o) (R2b c (cmp op))) (ho2 : OpR X (compareOp o2) (R2b c (cmp op2))) (ho3 : OpR X (compareOp o3) (R2b c (cmp op3))) (hd : plainE d2 = true) (ha : PE X a (tE c W (ev R ja))) (hb : PE X b (tE c W (ev R jb))) (hc : PE X d (tE c W (ev R jc))) (hd2 : PE X d2 (tE c W (ev R jd))) :
    SE X c W (.Compare a [o, o2, o3] [b, d, d2] pos) (ev R (.chain3 op op2 op3 ja jb jc jd)) :=
  ⟨(pe_chain3 ho ho2 ho3 ha hb hc hd2 (show lastMarks [o, o2, o3] [b, d, d2] = false from plain_marks hd o3)).weak fun σ H Q q => chain3_ok q, (pt_chain3 ho ho2 ho3 ha hb hc hd2 (show lastMarks [o, o2, o3] [b, d, d2] = false from plain_marks hd o3)).weak fun σ H Q q => chain3_ok (testB_val q), fun op vs p e => by cases e⟩
end
end OI

/-! OIu5: exceptions: raise, isinstance of a caught one, try. -/
namespace OI
open PySem PySem.Spec PyProof.Rows L2

/-- what of an exception class of the text is known -/
structure ExT (X : Cx) (c : Cn) (k : String) : Prop where
  mg : X.mg (Str.ofString k) = some (.ref (c.cls k))
  kp : PySem.W.keepIn X.K (.ref (c.cls k)) = true
  xc : PySem.W.excIn X.K (c.cls k) [.type "ValueError", .type "Exception", .type "BaseException", .type "object"] "ValueError.__new__" = true
  sb : PySem.W.subIn X.K (.ref (c.cls k)) (.type "BaseException") = some true
  ve : PySem.W.subIn X.K (.ref (c.cls k)) (.type "ValueError") = some true
  ty : PySem.W.typeIn X.K (.ref (c.cls k)) = some (.type "type")
  is : ExcC X.K (c.cls k)
structure ExTab (X : Cx) (c : Cn) (ks : List String) : Prop where
  ex : ∀ k ∈ ks, ExT X c k
  sub : ∀ k ∈ ks, ∀ d ∈ ks, PySem.W.subIn X.K (.ref (c.cls k)) (.ref (c.cls d)) = some (isSub k d)
section
variable {X : Cx} {c : Cn} {W : WX} {ws : List Nat} {R : Runs} {n : Nat} {ks : List String}
theorem ExTab.exm (T : ExTab X c ks) {k d : String} (hk : k ∈ ks) (hd : d ∈ ks) : PySem.W.exmOne X.K (.ref (c.cls k)) (.ref (c.cls d)) = some (isSub k d) :=
  PySem.W.exm_ref (T.ex d hd).sb (T.ex d hd).is.hd (T.ex d hd).ty (T.sub k hk d hd)
theorem ExTab.kit (T : ExTab X c ks) {k d : String} (hk : k ∈ ks) (hd : d ∈ ks) : PySem.W.kitOne X.K (.ref (c.cls k)) (.ref (c.cls d)) = some (isSub k d) := by
  have e := T.exm hk hd
  have hsb := (T.ex d hd).sb
  unfold PySem.W.exmOne at e
  rw [hsb, if_pos (by rfl)] at e
  unfold PySem.W.kitOne
  split
  · rename_i h
    have h1 : (Value.ref (c.cls k)) = .ref (c.cls d) := beq_iff_eq.mp h
    have h2 := T.sub k hk d hd
    have h3 := T.sub d hd d hd
    rw [h1, h3] at h2
    rw [← Option.some.inj h2]
    simp [isSub]
  · exact e
theorem ExTab.kitVE (T : ExTab X c ks) {k : String} (hk : k ∈ ks) : PySem.W.kitOne X.K (.ref (c.cls k)) (.type "ValueError") = some true := by
  unfold PySem.W.kitOne
  rw [if_neg (by simp)]
  show (if PySem.W.kitMeta "ValueError" = true then PySem.W.subIn X.K (.ref (c.cls k)) (.type "ValueError") else none) = some true
  rw [if_pos (by decide +kernel)]
  exact (T.ex k hk).ve
/-- raise K('..') -/
theorem s_rais {k m : String} {mm : Str} {j : Nat} {p p2 cp pos : Pos} (hc : X.calm = true) (tk : Takes X W) (E : ExT X c k) (hg : Gl X (Str.ofString k)) (hdb : (Str.ofString k == ("__debug__" : Str)) = false) :
    PS X (.Raise (some (.Call (.Name (Str.ofString k) p) [.Constant (.str mm) j p2] [] cp)) none pos) (tS c W ws (exec R n (.rais k))) :=
  (ps_raise hc tk (pmk_own PySem.F.excBase_ValueError E.xc E.mg E.kp (raises_own E.sb E.ty) hg hdb)).weak fun D σ H q => by
    obtain ⟨S, e, s, rfl, Rr, p⟩ := q
    exact p S σ Rr (StS.refl ws S s)

/-! ### isinstance of what an except suite holds -/
def tyV (c : Cn) : Ty → V
  | .own k => .ref (c.cls k)
  | _ => .ty "ValueError"
def tyU (c : Cn) : Ty → Value
  | .own k => .ref (c.cls k)
  | _ => .type "ValueError"
/-- isinstance(e, (C, ..)), e the exception that the suite holds -/
def rIsET (K : PySem.W.Frag) (D a : Addr) : List V → Hp → VK → Prop := fun xs H Q => ∃ (tp : Addr) (cs : List V) (us : List Value) (b : Bool), xs = [.ref a, .ref tp] ∧ H tp = some (.tup cs) ∧ Paired ClsV cs us ∧ PySem.W.kitAny K (.ref D) us = some b ∧ Q (.bl b) H
theorem call_isET {a D : Addr} {oe : Obj} {pn : List (Addr × Obj)} (C : ExcC X.K D) (hz : Zc (.ref D) none oe) (hf : ∃ vs, oe.data = .fields vs) : CallR (X.suite a ((a, oe) :: pn)) (.builtin "isinstance") (rIsET X.K D a) := by
  intro pins s σ H xs us Q I r h
  obtain ⟨tp, cs, ws, b, rfl, hT, k, e, q⟩ := h
  obtain ⟨u1, u2, rfl, r1, r2⟩ := vals2 r
  cases (show u1 = Value.ref a from r1)
  cases (show u2 = Value.ref tp from r2)
  obtain ⟨hget, _⟩ := I.pin (a, oe) (List.mem_append.mpr (.inl List.mem_cons_self))
  obtain ⟨vs, hv⟩ := hf
  have J : PySem.W.InstAt s.heap a oe D none := by
    obtain ⟨oc, od, oda, osl⟩ := oe
    obtain ⟨h1, h2⟩ := hz
    dsimp only at h1 h2 hv
    subst h1 h2 hv
    exact ⟨hget, rfl, rfl, trivial⟩
  obtain ⟨_, its, rv, o, h1, h2, n, h3⟩ := (show ObjOk X.prog X.w H s.heap tp (.tup cs) from I.hok tp _ hT)
  have e3 := ClsV.all k rv
  subst e3
  obtain ⟨oc, od, dt, sl⟩ := o
  simp only at h2 h3
  subst h2 h3
  exact PySem.W.kia_tup (PySem.W.handS_kitx_exc C.hg C.hk C.hs C.hd C.ha C.hn C.ht C.hm) I.kIn J h1 e (fun z => nomatch z) fun tk => ⟨.bl b, H, I.tok tk, rfl, q⟩
/-- what a suite knows of the exception that it holds -/
def HotE (X : Cx) (c : Cn) (ks : List String) : Prop := ∀ a k, c.exn = some (a, k) → k ∈ ks ∧ CallR X (.builtin "isinstance") (rIsE X.K (c.cls k) a) ∧ CallR X (.builtin "isinstance") (rIsET X.K (c.cls k) a)
/-- a class's name, as it is written -/
inductive ClName (X : Cx) (ks : List String) : Expr → Ty → Prop where
  | own {k : String} {p : Pos} (hk : k ∈ ks) (hg : Gl X (Str.ofString k)) (hdb : (Str.ofString k == ("__debug__" : Str)) = false) : ClName X ks (.Name (Str.ofString k) p) (.own k)
  | ve {p : Pos} (hg : Gl X "ValueError") (hm : X.mg "ValueError" = none) : ClName X ks (.Name "ValueError" p) .valueError
inductive ClNames (X : Cx) (ks : List String) : List Expr → List Ty → Prop where
  | nil : ClNames X ks [] []
  | cons {e : Expr} {t : Ty} {es : List Expr} {ts : List Ty} (h : ClName X ks e t) (r : ClNames X ks es ts) : ClNames X ks (e :: es) (t :: ts)
theorem ClName.pe (T : ExTab X c ks) {e : Expr} {t : Ty} (h : ClName X ks e t) : PE X e (fun _ H Q => Q (tyV c t) H) := by
  cases h with
  | own hk hg hdb => exact (pe_glob hg (T.ex _ hk).mg rfl hdb)
  | ve hg hm => exact pe_bltn (v := .ty "ValueError") hg hm (by decide +kernel) rfl (by decide) (by decide)
theorem ClName.plain {e : Expr} {t : Ty} (h : ClName X ks e t) : plainE e = true := by cases h <;> rfl
theorem ClNames.pa (T : ExTab X c ks) : ∀ {es : List Expr} {ts : List Ty}, ClNames X ks es ts → PA X es fun _ H Q => Q (ts.map (tyV c)) H
  | _, _, .nil => pa_nil
  | _, _, .cons h r => pa_cons (h.pe T) (r.pa T) (plain_star h.plain _ X.env)
theorem clsv1 : ∀ t : Ty, ClsV (tyV c t) (tyU c t) := fun t => by cases t <;> first | exact .own _ | exact .ty _
theorem clsvs : ∀ ts : List Ty, Paired ClsV (ts.map (tyV c)) (ts.map (tyU c))
  | [] => .nil
  | t :: ts => .cons (clsv1 t) (clsvs ts)
theorem ClName.kit (T : ExTab X c ks) {e : Expr} {t : Ty} (h : ClName X ks e t) {k : String} (hk : k ∈ ks) {s : Store} {b : Bool} (hb : tyIs s (.exn k) t = some b) : PySem.W.kitOne X.K (.ref (c.cls k)) (tyU c t) = some b := by
  cases h with
  | own hk2 hg hdb =>
    cases hb
    exact T.kit hk hk2
  | ve hg hm =>
    cases hb
    exact T.kitVE hk
theorem ClNames.kit (T : ExTab X c ks) {k : String} (hk : k ∈ ks) {s : Store} : ∀ {es : List Expr} {ts : List Ty} {b : Bool}, ClNames X ks es ts → tyAny s (.exn k) ts = some b → PySem.W.kitAny X.K (.ref (c.cls k)) (ts.map (tyU c)) = some b
  | _, _, b, .nil, hb => by cases hb; rfl
  | _, _, b, .cons h r, hb => by
    unfold tyAny at hb
    split at hb
    · rename_i h3
      cases hb
      exact kitAny_cons (h.kit T hk h3) (fun z => nomatch z) fun _ => rfl
    · rename_i h3
      exact kitAny_cons (h.kit T hk h3) (fun _ => ClNames.kit T hk r hb) fun z => nomatch z
    · cases hb
theorem exn_of {S : Wd} {pl : Pl} {m : M} {v : V} {t : Ty} {s : Store} {b : Bool} {e : Expr} (h : ClName X ks e t) (r : RepM c S pl m v) (hb : tyIs s m.frz t = some b) : ∃ k a, m.frz = .exn k ∧ v = .ref a ∧ c.exn = some (a, k) := by
  have hm : ∃ k, m.frz = .exn k := by
    cases h with
    | own =>
      unfold tyIs at hb
      dsimp only at hb
      split at hb
      · exact ⟨_, by assumption⟩
      · cases hb
    | ve =>
      unfold tyIs at hb
      dsimp only at hb
      split at hb
      · exact ⟨_, by assumption⟩
      · cases hb
  obtain ⟨k, hk⟩ := hm
  cases m with
  | val d =>
    have hk : d = .exn k := hk
    subst hk
    obtain ⟨a, h1, h2⟩ := r
    exact ⟨k, a, rfl, h1, h2⟩
  | ol xs => cases hk
  | od t kvs => cases hk
theorem s_isiE1 {a e : Expr} {ia : IE} {t : Ty} {p pos : Pos} (T : ExTab X c ks) (hot : HotE X c ks) (hg : Gl X "isinstance") (hm : X.mg "isinstance" = none) (hT : ClName X ks e t) (hp : plainE a = true) (ha : PE X a (tE c W (ev R ia))) :
    PE X (.Call (.Name "isinstance" p) [a, e] [] pos) (tE c W (ev R (.isi ia true [t]))) := by
  refine ⟨fun pins s σ H Q I q => ?_⟩
  cases hx : c.exn with
  | none =>
    -- nothing is held: the test has no answer
    refine (pe_callB (r := fun _ _ _ => False) (fun _ _ _ _ _ _ _ _ _ z => z.elim) hg hm rfl (pa2 hp ha hT.plain (hT.pe T)) (by decide) (by decide) (plain_star hp _ X.env) (any1 hT.plain)).run pins s σ H Q I ?_
    exact isi_ok q fun S e s m pl v b Rr rp hb p => by
      obtain ⟨k, a, _, _, h3⟩ := exn_of hT rp (any_one hb)
      rw [hx] at h3
      cases h3
  | some ak =>
    obtain ⟨a0, k0⟩ := ak
    obtain ⟨hk, h1, h2⟩ := hot a0 k0 hx
    refine (pe_callB h1 hg hm rfl (pa2 hp ha hT.plain (hT.pe T)) (by decide) (by decide) (plain_star hp _ X.env) (any1 hT.plain)).run pins s σ H Q I ?_
    exact isi_ok q fun S e s m pl v b Rr rp hb p => by
      obtain ⟨k, a, g1, rfl, g3⟩ := exn_of hT rp (any_one hb)
      rw [hx] at g3
      cases g3
      rw [g1] at hb
      refine ⟨tyV c t, tyU c t, b, rfl, fun u hu => (clsv1 t).eq hu, hT.kit T hk (any_one hb), end_val Rr p rfl⟩
theorem s_isiET {a : Expr} {es : List Expr} {ia : IE} {t0 : Ty} {ts : List Ty} {kk : Nat} {tp p pos : Pos} (T : ExTab X c ks) (hot : HotE X c ks) (hg : Gl X "isinstance") (hm : X.mg "isinstance" = none) (hT : ClNames X ks es (t0 :: ts)) (hl : (t0 :: ts).length ≤ 1000) (hp : plainE a = true) (ha : PE X a (tE c W (ev R ia))) :
    PE X (.Call (.Name "isinstance" p) [a, .Tuple es kk tp] [] pos) (tE c W (ev R (.isi ia false (t0 :: ts)))) := by
  refine ⟨fun pins s σ H Q I q => ?_⟩
  have first : ∀ {S : Wd} {pl : Pl} {m : M} {v : V} {b : Bool} {s : Store}, RepM c S pl m v → tyAny s m.frz (t0 :: ts) = some b → ∃ k a, m.frz = .exn k ∧ v = .ref a ∧ c.exn = some (a, k) := fun rp hb => by
    cases hT with
    | cons h r =>
      unfold tyAny at hb
      split at hb
      · rename_i h3; exact exn_of h rp h3
      · rename_i h3; exact exn_of h rp h3
      · cases hb
  cases hx : c.exn with
  | none =>
    refine (pe_callB (r := fun _ _ _ => False) (fun _ _ _ _ _ _ _ _ _ z => z.elim) hg hm rfl (pa2 hp ha rfl (pe_tup (hT.pa T))) (by decide) (by decide) (plain_star hp _ X.env) (any1 rfl)).run pins s σ H Q I ?_
    exact isi_ok q fun S e s m pl v b Rr rp hb p => by
      obtain ⟨k, a, _, _, h3⟩ := first rp hb
      rw [hx] at h3
      cases h3
  | some ak =>
    obtain ⟨a0, k0⟩ := ak
    obtain ⟨hk, h1, h2⟩ := hot a0 k0 hx
    refine (pe_callB h2 hg hm rfl (pa2 hp ha rfl (pe_tup (hT.pa T))) (by decide) (by decide) (plain_star hp _ X.env) (any1 rfl)).run pins s σ H Q I ?_
    exact isi_ok q fun S e s m pl v b Rr rp hb p => by
      obtain ⟨k, a, g1, rfl, g3⟩ := first rp hb
      rw [hx] at g3
      cases g3
      rw [g1] at hb
      refine ⟨by rw [List.length_map, sizeLine_eq]; omega, fun ad nq => ?_⟩
      have hlv : ((t0 :: ts).map (tyV c)).length ≤ 16777216 := by rw [List.length_map]; omega
      have al : Al c S (S.put ad (.tup ((t0 :: ts).map (tyV c))) none) := Al.lay Rr.toRlS nq (.inl rfl) (HLo.tup hlv)
      have Rr' := al.rl Rr
      exact ⟨ad, _, _, b, rfl, upd_same, clsvs (t0 :: ts), hT.kit T hk hb, end_val Rr' (PostG.shift Rr.toRlS (al.ste Rr.dom s) p) rfl⟩
end

/-! ### what is no exception -/
def Cn.ex (c : Cn) (a : Addr) (k : String) : Cn := { c with exn := some (a, k) }
section
variable {c : Cn} {S : Wd} {a : Addr} {k : String}
mutual
theorem RepD.noEx (hx : c.exn = none) : ∀ {d : D} {v : V}, RepD c S d v → d.noEx = true
  | .non, _, _ => rfl
  | .bl _, _, _ => rfl
  | .int _, _, _ => rfl
  | .str _, _, _ => rfl
  | .tup xs, _, ⟨p, vs, e, h1, h2⟩ => RepDs.noEx hx h2
  | .lst xs, _, ⟨p, vs, e, h1, h2, h3⟩ => RepDs.noEx hx h3
  | .dic t kvs, _, ⟨p, vs, e, h1, h2, h3⟩ => RepKs.noEx hx h3
  | .scr _, _, _ => rfl
  | .loc _, _, _ => rfl
  | .exn _, _, ⟨a, e, h⟩ => by rw [hx] at h; cases h
  | .lam _ _, _, ⟨L, e, h1, h2, h3, h4, h5⟩ => RepDs.noEx hx h5
theorem RepDs.noEx (hx : c.exn = none) : ∀ {d : List D} {v : List V}, RepDs c S d v → D.noExs d = true
  | [], _, _ => rfl
  | d :: ds, _, ⟨v, r, e, h1, h2⟩ => by
    unfold D.noExs
    rw [RepD.noEx hx h1, RepDs.noEx hx h2]
    rfl
theorem RepKs.noEx (hx : c.exn = none) : ∀ {t : Bool} {d : List (D × D)} {v : List V}, RepKs c S t d v → D.noExk d = true
  | _, [], _, _ => rfl
  | false, (k, d) :: ds, _, ⟨h0, v, r, e, h1, h2⟩ => by
    unfold D.noExk
    rw [RepD.noEx hx h1, RepKs.noEx hx h2]
    rfl
  | true, (k, d) :: ds, _, ⟨h0, q, v, r, e, hk, h1, h2⟩ => by
    unfold D.noExk
    rw [RepD.noEx hx h1, RepKs.noEx hx h2]
    rfl
end
mutual
theorem RepD.ex (hx : c.exn = none) : ∀ {d : D} {v : V}, RepD c S d v → RepD (c.ex a k) S d v
  | .non, _, h => h
  | .bl _, _, h => h
  | .int _, _, h => h
  | .str _, _, h => h
  | .tup xs, _, ⟨p, vs, e, h1, h2⟩ => ⟨p, vs, e, h1, RepDs.ex hx h2⟩
  | .lst xs, _, ⟨p, vs, e, h1, h2, h3⟩ => ⟨p, vs, e, h1, h2, RepDs.ex hx h3⟩
  | .dic t kvs, _, ⟨p, vs, e, h1, h2, h3⟩ => ⟨p, vs, e, h1, h2, RepKs.ex hx h3⟩
  | .scr _, _, h => h
  | .loc _, _, h => h
  | .exn _, _, ⟨a, e, h⟩ => by rw [hx] at h; cases h
  | .lam _ _, _, ⟨L, e, h1, h2, h3, h4, h5⟩ => ⟨L, e, h1, h2, h3, h4, RepDs.ex hx h5⟩
theorem RepDs.ex (hx : c.exn = none) : ∀ {d : List D} {v : List V}, RepDs c S d v → RepDs (c.ex a k) S d v
  | [], _, h => h
  | d :: ds, _, ⟨v, r, e, h1, h2⟩ => ⟨v, r, e, RepD.ex hx h1, RepDs.ex hx h2⟩
theorem RepKs.ex (hx : c.exn = none) : ∀ {t : Bool} {d : List (D × D)} {v : List V}, RepKs c S t d v → RepKs (c.ex a k) S t d v
  | _, [], _, h => h
  | false, (k, d) :: ds, _, ⟨h0, v, r, e, h1, h2⟩ => ⟨h0, v, r, e, RepD.ex hx h1, RepKs.ex hx h2⟩
  | true, (k, d) :: ds, _, ⟨h0, q, v, r, e, hk, h1, h2⟩ => ⟨h0, q, v, r, e, RepD.ex hx hk, RepD.ex hx h1, RepKs.ex hx h2⟩
end
theorem keyOk_tup {k : D} (h : keyOk true k = true) : k.tupKey = true := h
theorem tupKey_ex_in : ∀ {ds : List D}, ds.all D.isIn = true → D.noExs ds = true
  | [], _ => rfl
  | d :: r, h => by
    rw [List.all_cons, Bool.and_eq_true] at h
    unfold D.noExs
    rw [tupKey_ex_in h.2, Bool.and_true]
    cases d <;> first | rfl | (cases h.1)
theorem tupKey_ex_s : ∀ {ds : List D}, ds.all D.tupIn = true → D.noExs ds = true
  | [], _ => rfl
  | d :: r, h => by
    rw [List.all_cons, Bool.and_eq_true] at h
    unfold D.noExs
    rw [tupKey_ex_s h.2, Bool.and_true]
    cases d <;> first | exact tupKey_ex_in h.1 | (cases h.1)
theorem tupKey_ex : ∀ {d : D}, d.tupKey = true → d.noEx = true := fun {d} h => by
  cases d <;> first | exact tupKey_ex_s h | (cases h)
mutual
theorem RepD.unex : ∀ {d : D} {v : V}, d.noEx = true → RepD (c.ex a k) S d v → RepD c S d v
  | .non, _, _, h => h
  | .bl _, _, _, h => h
  | .int _, _, _, h => h
  | .str _, _, _, h => h
  | .tup xs, _, n, ⟨p, vs, e, h1, h2⟩ => ⟨p, vs, e, h1, RepDs.unex n h2⟩
  | .lst xs, _, n, ⟨p, vs, e, h1, h2, h3⟩ => ⟨p, vs, e, h1, h2, RepDs.unex n h3⟩
  | .dic t kvs, _, n, ⟨p, vs, e, h1, h2, h3⟩ => ⟨p, vs, e, h1, h2, RepKs.unex n h3⟩
  | .scr _, _, _, h => h
  | .loc _, _, _, h => h
  | .exn _, _, n, _ => by cases n
  | .lam _ _, _, n, ⟨L, e, h1, h2, h3, h4, h5⟩ => ⟨L, e, h1, h2, h3, h4, RepDs.unex n h5⟩
theorem RepDs.unex : ∀ {d : List D} {v : List V}, D.noExs d = true → RepDs (c.ex a k) S d v → RepDs c S d v
  | [], _, _, h => h
  | d :: ds, _, n, ⟨v, r, e, h1, h2⟩ => by
    unfold D.noExs at n
    rw [Bool.and_eq_true] at n
    exact ⟨v, r, e, RepD.unex n.1 h1, RepDs.unex n.2 h2⟩
theorem RepKs.unex : ∀ {t : Bool} {d : List (D × D)} {v : List V}, D.noExk d = true → RepKs (c.ex a k) S t d v → RepKs c S t d v
  | _, [], _, _, h => h
  | false, (k, d) :: ds, _, n, ⟨h0, v, r, e, h1, h2⟩ => by
    unfold D.noExk at n
    rw [Bool.and_eq_true] at n
    exact ⟨h0, v, r, e, RepD.unex n.1 h1, RepKs.unex n.2 h2⟩
  | true, (k, d) :: ds, _, n, ⟨h0, q, v, r, e, hk, h1, h2⟩ => by
    unfold D.noExk at n
    rw [Bool.and_eq_true] at n
    exact ⟨h0, q, v, r, e, RepD.unex (tupKey_ex (keyOk_tup h0)) hk, RepD.unex n.1 h1, RepKs.unex n.2 h2⟩
end
theorem RepM.noEx (hx : c.exn = none) {pl : Pl} {m : M} {v : V} (r : RepM c S pl m v) : m.frz.noEx = true := by
  cases m with
  | val d => exact RepD.noEx hx r
  | ol xs => obtain ⟨p, vs, _, _, _, h⟩ := r; exact RepDs.noEx hx h
  | od t kvs => obtain ⟨p, vs, _, _, _, h⟩ := r; exact RepKs.noEx hx h
theorem RepM.ex (hx : c.exn = none) {pl : Pl} {m : M} {v : V} (r : RepM c S pl m v) : RepM (c.ex a k) S pl m v := by
  cases m with
  | val d => exact RepD.ex hx r
  | ol xs => obtain ⟨p, vs, e, h1, h2, h⟩ := r; exact ⟨p, vs, e, h1, h2, RepDs.ex hx h⟩
  | od t kvs => obtain ⟨p, vs, e, h1, h2, h⟩ := r; exact ⟨p, vs, e, h1, h2, RepKs.ex hx h⟩
theorem RepM.unex {pl : Pl} {m : M} {v : V} (n : m.frz.noEx = true) (r : RepM (c.ex a k) S pl m v) : RepM c S pl m v := by
  cases m with
  | val d => exact RepD.unex n r
  | ol xs => obtain ⟨p, vs, e, h1, h2, h⟩ := r; exact ⟨p, vs, e, h1, h2, RepDs.unex n h⟩
  | od t kvs => obtain ⟨p, vs, e, h1, h2, h⟩ := r; exact ⟨p, vs, e, h1, h2, RepKs.unex n h⟩
theorem RepF.ex (hx : c.exn = none) {n : Nat} : ∀ {fs : List (String × M)} {gs : List (Str × V)}, RepF c S n fs gs → RepF (c.ex a k) S n fs gs
  | [], _, h => h
  | (f, m) :: r, _, ⟨v, q, e, h1, h2⟩ => ⟨v, q, e, h1.ex hx, RepF.ex hx h2⟩
theorem RepF.unex (hx : c.exn = none) {n : Nat} {S0 : Wd} : ∀ {fs : List (String × M)} {gs gs0 : List (Str × V)}, RepF c S0 n fs gs0 → RepF (c.ex a k) S n fs gs → RepF c S n fs gs
  | [], _, _, _, h => h
  | (f, m) :: r, _, _, ⟨_, _, _, g1, g2⟩, ⟨v, q, e, h1, h2⟩ => ⟨v, q, e, h1.unex (g1.noEx hx), RepF.unex hx g2 h2⟩
theorem RepO.ex (hx : c.exn = none) {n : Nat} {p : Addr} {o : SObj} (r : RepO c S n p o) : RepO (c.ex a k) S n p o := by
  cases o with
  | ins kk fs => obtain ⟨dx, fs', h1, h2, h3⟩ := r; exact ⟨dx, fs', h1, h2.ex hx, h3⟩
  | lst xs => obtain ⟨vs, h1, h2⟩ := r; exact ⟨vs, h1, h2.ex hx⟩
  | dic t kvs => obtain ⟨vs, h1, h2⟩ := r; exact ⟨vs, h1, h2.ex hx⟩
theorem RepO.unex (hx : c.exn = none) {S0 : Wd} {n : Nat} {p p0 : Addr} {o : SObj} (r0 : RepO c S0 n p0 o) (r : RepO (c.ex a k) S n p o) : RepO c S n p o := by
  cases o with
  | ins kk fs =>
    obtain ⟨_, _, _, g, _⟩ := r0
    obtain ⟨dx, fs', h1, h2, h3⟩ := r
    exact ⟨dx, fs', h1, RepF.unex hx g h2, h3⟩
  | lst xs =>
    obtain ⟨_, _, g⟩ := r0
    obtain ⟨vs, h1, h2⟩ := r
    exact ⟨vs, h1, h2.unex (g.noEx hx)⟩
  | dic t kvs =>
    obtain ⟨_, _, g⟩ := r0
    obtain ⟨vs, h1, h2⟩ := r
    exact ⟨vs, h1, h2.unex (g.noEx hx)⟩
theorem RlS.ex (hx : c.exn = none) {s : Store} (R : RlS c S s) : RlS (c.ex a k) S s :=
  ⟨R.len, fun n e h => by obtain ⟨p, h1, h2, h3⟩ := R.obj n e h; exact ⟨p, h1, h2, h3.ex hx⟩, R.dom, R.src, ⟨R.hl.n, R.hl.t⟩⟩
theorem RlS.unex (hx : c.exn = none) {S0 : Wd} {s : Store} (R0 : RlS c S0 s) (R : RlS (c.ex a k) S s) : RlS c S s :=
  ⟨R.len, fun n e h => by
    obtain ⟨p0, _, _, g⟩ := R0.obj n e h
    obtain ⟨p, h1, h2, h3⟩ := R.obj n e h
    exact ⟨p, h1, h2, RepO.unex hx g h3⟩, R.dom, R.src, ⟨R.hl.n, R.hl.t⟩⟩
theorem Rl.ex (hx : c.exn = none) {e : OI.Env} {s : Store} {σ : L2.St} (R : Rl c S e s σ) : Rl (c.ex a k) S e s σ :=
  ⟨R.toRlS.ex hx, R.elen, fun i m h => by obtain ⟨v, h1, h2⟩ := R.slot i m h; exact ⟨v, h1, h2.ex hx⟩⟩
end

/-! ### try -/
section
variable {X : Cx} {c : Cn} {W : WX} {ws ws2 : List Nat} {R : Runs} {n : Nat} {ks : List String}
theorem s_tryA {b h : ISs} {kc : String} {i : Nat} {nm : Str} {body suite : List Stmt} {b0 : Stmt} {np pos' pos : Pos} (hs : X.stack = X.env :: X.outer) (hf : X.env.frame = some X.env.locals) (hN : X.N.Nodup) (hi : X.N[i]? = some nm) (hln : X.env.kindOf nm = some .local)
    (T : ExTab X c ks) (hkc : kc ∈ ks) (hg : Gl X (Str.ofString kc)) (hdb : (Str.ofString kc == ("__debug__" : Str)) = false) (tk : Takes X W) (hx : c.exn = none) (hiw : i ∈ ws)
    (hb : ∀ (W' : WX) (pn : List (Addr × Obj)) (xe : Value → Shared → Prop), Takes (X.tr pn xe) W' → PassesOwn (model X.prog X.w) X.A X.env xe → PSs (X.tr pn xe) body (tS c W' ws (execs R n b)))
    (hsu : ∀ (a : Addr) (oe : Obj) (k : String) (pn : List (Addr × Obj)), k ∈ ks → Zc (.ref (c.cls k)) none oe → (∃ vs, oe.data = .fields vs) → PSs (X.suite a ((a, oe) :: pn)) (b0 :: suite) (tS (c.ex a k) WN ws2 (execs R n h))) :
    PS X (.Try body [.ExceptHandler (some (.Name (Str.ofString kc) np)) (some nm) (b0 :: suite) pos'] [] [] pos) (tS c W ws (exec R n (.tryA b ks kc i h))) :=
  (ps_try_as (ts := fun a cls d D σ H => ∃ k, k ∈ ks ∧ cls = .ref (c.cls k) ∧ d = none ∧ tS (c.ex a k) WN ws2 (execs R n h) D σ H) hs hf hN hi hln ⟨hg, hdb, .inl (T.ex kc hkc).mg⟩ tk hb
    (fun a oe cls d pn hz hfld => ⟨fun pins s σ H D I q => by
      obtain ⟨k, hk, e1, e2, q⟩ := q
      subst e1 e2
      exact (hsu a oe k pn hk hz hfld).run pins s σ H D I q⟩)).weak fun D σ H q => by
    obtain ⟨S, e, s, rfl, Rr, p⟩ := q
    refine ⟨S, e, s, rfl, Rr, ?_⟩
    unfold exec at p
    cases hr : execs R n b e s with
    | ok f e1 s1 =>
      rw [hr] at p
      cases f with
      | nx => exact p
      | ret m => exact p
    | bad => rw [hr] at p; exact p
    | err k e1 s1 =>
      rw [hr] at p
      dsimp only at p
      intro S' σ' R' st'
      split at p
      · rename_i hk
        have hk : k ∈ ks := by simpa using hk
        refine ⟨isSub k kc, T.exm hk hkc, fun hsub a _ => ?_, fun hsub => ?_⟩
        · rw [if_pos hsub] at p
          split at p
          · rename_i hlt
            refine ⟨k, hk, rfl, rfl, S', e1.set i (some (.val (.exn k))), s1, rfl, set_val (R'.ex hx) hlt ⟨a, rfl, rfl⟩, ?_⟩
            cases hq : execs R n h (e1.set i (some (.val (.exn k)))) s1 with
            | ok f e2 s2 =>
              rw [hq] at p
              cases f with
              | nx => exact p.elim
              | ret m =>
                unfold caught at p
                dsimp only at p
                split at p
                · rename_i hm
                  obtain ⟨rfl, hm⟩ := hm
                  intro S2 v R2 st2 rp
                  exact p S2 v (RlS.unex hx R'.toRlS R2) (st'.toStC.trans st2) (rp.unex hm)
                · exact p.elim
            | err k2 e2 s2 => rw [hq] at p; exact p.elim
            | bad => rw [hq] at p; exact p.elim
          · exact p.elim
        · rw [if_neg (by rw [hsub]; simp)] at p
          exact p S' σ' R' st'
      · exact p.elim
def hdl (c : Cn) (R : Runs) (n : Nat) (ws : List Nat) : IHs → List (Value × (Addr → Value → Option Addr → TS))
  | .nil => []
  | .cons d b r => (.ref (c.cls d), fun _ _ _ => tS c WN ws (execs R n b)) :: hdl c R n ws r
def IHs.cls : IHs → List String
  | .nil => []
  | .cons d _ r => d :: r.cls
theorem many_ok {k : String} (T : ExTab X c ks) (hk : k ∈ ks) {S : Wd} {s s1 : Store} {e1 : OI.Env} {D : Ends} (Rs : RlS c S s) : ∀ (hs : IHs), (∀ d ∈ hs.cls, d ∈ ks) → PostS c W ws S s (execH R n hs k e1 s1) D → ∀ S' σ', Rl c S' e1 s1 σ' → StS ws S S' s s1 →
    wMany X.K W D (hdl c R n ws hs) (.ref (c.cls k)) none σ' S'.H
  | .nil, hd, p, S', σ', R', st' => p S' σ' R' st'
  | .cons d b r, hd, p, S', σ', R', st' => by
    have p : PostS c W ws S s (if isSub k d then quiet (execs R n b e1 s1) else execH R n r k e1 s1) D := p
    refine ⟨isSub k d, T.exm hk (hd d (List.mem_cons_self ..)), fun hsub a _ => ?_, fun hsub => ?_⟩
    · rw [if_pos hsub] at p
      refine ⟨S', e1, s1, rfl, R', ?_⟩
      have p2 := PostS.shift Rs st' p
      cases hq : execs R n b e1 s1 with
      | ok f e2 s2 =>
        rw [hq] at p2
        cases f with
        | nx => exact p2
        | ret m => exact p2
      | err k2 e2 s2 => rw [hq] at p2; exact p2.elim
      | bad => rw [hq] at p2; exact p2.elim
    · rw [if_neg (by rw [hsub]; simp)] at p
      exact many_ok T hk Rs r (fun d hd' => hd d (List.mem_cons_of_mem _ hd')) p S' σ' R' st'
theorem s_tryM {b : ISs} {hs : IHs} {body : List Stmt} {h0 : ExceptHandler} {hds : List ExceptHandler} {pos : Pos} (hs0 : X.stack = X.env :: X.outer) (hf : X.env.frame = some X.env.locals) (T : ExTab X c ks) (hd : ∀ d ∈ hs.cls, d ∈ ks) (tk : Takes X W)
    (hb : ∀ (W' : WX) (pn : List (Addr × Obj)) (xe : Value → Shared → Prop), Takes (X.tr pn xe) W' → PassesOwn (model X.prog X.w) X.A X.env xe → PSs (X.tr pn xe) body (tS c W' ws (execs R n b)))
    (hh : HdsOk X (h0 :: hds) (hdl c R n ws hs)) : PS X (.Try body (h0 :: hds) [] [] pos) (tS c W ws (exec R n (.tryM b ks hs))) :=
  (ps_try_many hs0 hf tk hb hh).weak fun D σ H q => by
    obtain ⟨S, e, s, rfl, Rr, p⟩ := q
    refine ⟨S, e, s, rfl, Rr, ?_⟩
    unfold exec at p
    cases hr : execs R n b e s with
    | ok f e1 s1 =>
      rw [hr] at p
      cases f with
      | nx => exact p
      | ret m => exact p
    | bad => rw [hr] at p; exact p
    | err k e1 s1 =>
      rw [hr] at p
      dsimp only at p
      split at p
      · rename_i hk
        exact many_ok T (by simpa using hk) Rr.toRlS hs hd p
      · exact p.elim
end

/-! ### d.update(d2) -/
section
variable {X : Cx} {c : Cn} {W : WX} {ws : List Nat} {R : Runs} {n : Nat} {pos apos cpos : Pos} {o a : Expr} {io ia : IE}
def rUpdate : V → List V → Hp → VK → Prop := fun x xs H Q => ∃ (p p2 : Addr) (kvs more : List (Key × V)), x = .ref p ∧ xs = [.ref p2] ∧ H p = some (.dK kvs) ∧ H p2 = some (.dK more) ∧ p ≠ p2 ∧ kvs.length + more.length ≤ sizeLine ∧ Q .non (L2.upd H p (.dK (mergeK kvs more)))
theorem mt_update : MtM X "dict.update" rUpdate := by
  intro pins s σ H x xs v us Q I rx rs h
  obtain ⟨p, p2, kvs, more, rfl, rfl, h1, h2, hne, hl, q⟩ := h
  cases (show v = Value.ref p from rx)
  obtain ⟨u, eu, ru⟩ := vals1 rs
  subst eu
  cases (show u = Value.ref p2 from ru)
  obtain ⟨z1, hd1, vs1, rel1, dd1⟩ := dk_of I.hok h1
  obtain ⟨z2, hd2, vs2, rel2, dd2⟩ := dk_of I.hok h2
  refine call_meetsIn PySem.F.slot_dict_update dd1.typeIs PySem.F.entry_dict_update (PySem.F.args_dict_update_2 _ _) (meets_dict_update (mixKind X.prog X.w) p p2 hne hd2)
    ⟨vs1, vs2, dd1, dd2, (by rw [← rel1.length, ← rel2.length]; exact hl), fun h' hm _ hs => ?_⟩
  have he : ∃ q, h'.get? p = some q := let ⟨q, _, _, hq, _⟩ := hm; ⟨q, hq⟩
  have hz : (mergeK kvs more).length ≤ sizeLine := Nat.le_trans (length_mergeK more kvs) hl
  exact ⟨.non, _, d_write I (by rw [h1]; exact True.intro) hs he (dk_new hz hd1 (rel2.merge rel1) hm), rfl, q⟩
theorem s_upd (hw : ∀ i ∈ io.slot?, i ∈ ws) (ho : PE X o (tE c W (ev R io))) (ha : PE X a (tE c W (ev R ia))) (hpo : plainE o = true) (hpa : plainE a = true) (hline : (apos.endLine == cpos.line) = true) : PS X (.Expr (.Call (.Attribute o "update" apos) [a] [] cpos) pos) (tS c W ws (exec R n (.mut1 "update" io ia))) := by
  refine (ps_expr (pe_bm PySem.F.plainAttrs_dict PySem.F.slot_dict_update PySem.F.type_dict_update mt_update ho (pa1 hpa ha) (plain_base hpo _ _ _) (few1 hpa) hline (plain_star hpa [] X.env) any0) rfl).weak fun D σ H q => ?_
  obtain ⟨S, e, s, rfl, Rr, p⟩ := q
  refine ⟨S, e, s, rfl, Rr, PostS.bindE Rr.toRlS p fun x e1 s1 S1 v q1 R1 st1 rp1 p1 => ?_⟩
  unfold mut1K at p1
  split at p1
  · rename_i hk
    have hdk : ∃ (pv : Addr) (kvs : List (OI.D × OI.D)) (vs : List V), v = .ref pv ∧ S1.H pv = some (dHO c pv false (kvs.map (·.1)) vs) := by
      have r := bw_view R1.toRlS rp1.1
      generalize (bw x.1 x.2 s1).1 = mm at r hk
      unfold kindOk at hk
      rw [if_pos rfl] at hk
      split at hk
      · rename_i kvs hx
        obtain ⟨p, vs, e1, h1, _⟩ := dic_of hx r
        exact ⟨p, kvs, vs, e1, h1⟩
      · cases hk
    obtain ⟨pv, kvs0, vs0, rfl, hpv⟩ := hdk
    refine ⟨.inr (.inr (.inl ⟨rfl, .inl ⟨_, hpv⟩⟩)), ?_⟩
    obtain ⟨S1', pd, R1', hH, ste⟩ := pend2 R1 rp1
    rw [← hH]
    refine valD_from R1' R1.toRlS ste p1 fun S2 e2 s2 d y R2 st2 rd p2 => ?_
    obtain ⟨a2, m, m', ev, how, hrep, hm', hnx⟩ := at_ok R1 rp1 pd st2 R2 p2 (mut1_d d) hw
    cases ev
    cases m with
    | val d' => rw [mut1_d d d'] at hm'; cases hm'
    | ol xs => cases d <;> cases hm'
    | od t kvs =>
      cases t with
      | true => cases d <;> cases hm'
      | false =>
        cases d with
        | dic t2 more =>
          cases t2 with
          | true => cases hm'
          | false =>
            have hm' : (if kvs.length + more.length ≤ LIM then some (M.od false (dmerge kvs more)) else none) = some m' := hm'
            split at hm'
            · rename_i hl
              cases hm'
              obtain ⟨p', vs, ev, h1, h2⟩ := hrep
              cases ev
              obtain ⟨p2, ws2, rfl, h3, h5, h4⟩ := rd
              obtain ⟨vs', m1, m2⟩ := kmerge h2 h4
              have hne : pv ≠ p2 := fun z => how (by rw [z]; exact h5)
              have l1 := RepKs.len2 h2
              have l2 := RepKs.len2 h4
              refine ⟨pv, p2, _, _, rfl, rfl, h1, h3, hne, by rw [l1, l2]; exact lim_le hl, ?_⟩
              have := hnx (.dK (mergeK (kpairs kvs vs) (kpairs more ws2))) (HLo.dK (by
                have := length_mergeK (kpairs more ws2) (kpairs kvs vs)
                rw [l1, l2] at this
                exact Nat.le_trans this hl)) fun S' pl hH ho f => ⟨pv, vs', rfl, by rw [hH, ← m2]; rfl, ho, m1.mono f⟩
              exact this
            · cases hm'
        | _ => cases hm'
  · exact p1.elim
end
end OI

/-! OIu6: a lambda handed to a def. -/
namespace OI
open PySem PySem.Spec PyProof.Rows L2

/-! ### what is no lambda -/
mutual
def D.noLam : D → Bool
  | .tup xs => D.noLams xs
  | .lst xs => D.noLams xs
  | .dic _ kvs => D.noLamk kvs
  | .lam _ _ => false
  | _ => true
def D.noLams : List D → Bool
  | [] => true
  | x :: xs => D.noLam x && D.noLams xs
def D.noLamk : List (D × D) → Bool
  | [] => true
  | (_, b) :: xs => D.noLam b && D.noLamk xs
end
def Cn.wl (c : Cn) (L : LamI) : Cn := { c with lam := some L }
section
variable {c : Cn} {S : Wd} {L : LamI}
mutual
theorem RepD.noLam (hx : c.lam = none) : ∀ {d : D} {v : V}, RepD c S d v → d.noLam = true
  | .non, _, _ => rfl
  | .bl _, _, _ => rfl
  | .int _, _, _ => rfl
  | .str _, _, _ => rfl
  | .tup xs, _, ⟨p, vs, e, h1, h2⟩ => RepDs.noLam hx h2
  | .lst xs, _, ⟨p, vs, e, h1, h2, h3⟩ => RepDs.noLam hx h3
  | .dic t kvs, _, ⟨p, vs, e, h1, h2, h3⟩ => RepKs.noLam hx h3
  | .scr _, _, _ => rfl
  | .loc _, _, _ => rfl
  | .exn _, _, _ => rfl
  | .lam _ _, _, ⟨L, e, _⟩ => by rw [hx] at e; cases e
theorem RepDs.noLam (hx : c.lam = none) : ∀ {d : List D} {v : List V}, RepDs c S d v → D.noLams d = true
  | [], _, _ => rfl
  | d :: ds, _, ⟨v, r, e, h1, h2⟩ => by
    unfold D.noLams
    rw [RepD.noLam hx h1, RepDs.noLam hx h2]
    rfl
theorem RepKs.noLam (hx : c.lam = none) : ∀ {t : Bool} {d : List (D × D)} {v : List V}, RepKs c S t d v → D.noLamk d = true
  | _, [], _, _ => rfl
  | false, (k, d) :: ds, _, ⟨h0, v, r, e, h1, h2⟩ => by
    unfold D.noLamk
    rw [RepD.noLam hx h1, RepKs.noLam hx h2]
    rfl
  | true, (k, d) :: ds, _, ⟨h0, q, v, r, e, hk, h1, h2⟩ => by
    unfold D.noLamk
    rw [RepD.noLam hx h1, RepKs.noLam hx h2]
    rfl
end
mutual
theorem RepD.wl (hx : c.lam = none) : ∀ {d : D} {v : V}, RepD c S d v → RepD (c.wl L) S d v
  | .non, _, h => h
  | .bl _, _, h => h
  | .int _, _, h => h
  | .str _, _, h => h
  | .tup xs, _, ⟨p, vs, e, h1, h2⟩ => ⟨p, vs, e, h1, RepDs.wl hx h2⟩
  | .lst xs, _, ⟨p, vs, e, h1, h2, h3⟩ => ⟨p, vs, e, h1, h2, RepDs.wl hx h3⟩
  | .dic t kvs, _, ⟨p, vs, e, h1, h2, h3⟩ => ⟨p, vs, e, h1, h2, RepKs.wl hx h3⟩
  | .scr _, _, h => h
  | .loc _, _, h => h
  | .exn _, _, h => h
  | .lam _ _, _, ⟨L, e, _⟩ => by rw [hx] at e; cases e
theorem RepDs.wl (hx : c.lam = none) : ∀ {d : List D} {v : List V}, RepDs c S d v → RepDs (c.wl L) S d v
  | [], _, h => h
  | d :: ds, _, ⟨v, r, e, h1, h2⟩ => ⟨v, r, e, RepD.wl hx h1, RepDs.wl hx h2⟩
theorem RepKs.wl (hx : c.lam = none) : ∀ {t : Bool} {d : List (D × D)} {v : List V}, RepKs c S t d v → RepKs (c.wl L) S t d v
  | _, [], _, h => h
  | false, (k, d) :: ds, _, ⟨h0, v, r, e, h1, h2⟩ => ⟨h0, v, r, e, RepD.wl hx h1, RepKs.wl hx h2⟩
  | true, (k, d) :: ds, _, ⟨h0, q, v, r, e, hk, h1, h2⟩ => ⟨h0, q, v, r, e, RepD.wl hx hk, RepD.wl hx h1, RepKs.wl hx h2⟩
end
theorem tupKey_lam_in : ∀ {ds : List D}, ds.all D.isIn = true → D.noLams ds = true
  | [], _ => rfl
  | d :: r, h => by
    rw [List.all_cons, Bool.and_eq_true] at h
    unfold D.noLams
    rw [tupKey_lam_in h.2, Bool.and_true]
    cases d <;> first | rfl | (cases h.1)
theorem tupKey_lam_s : ∀ {ds : List D}, ds.all D.tupIn = true → D.noLams ds = true
  | [], _ => rfl
  | d :: r, h => by
    rw [List.all_cons, Bool.and_eq_true] at h
    unfold D.noLams
    rw [tupKey_lam_s h.2, Bool.and_true]
    cases d <;> first | exact tupKey_lam_in h.1 | (cases h.1)
theorem tupKey_lam : ∀ {d : D}, d.tupKey = true → d.noLam = true := fun {d} h => by
  cases d <;> first | exact tupKey_lam_s h | (cases h)
mutual
theorem RepD.unwl : ∀ {d : D} {v : V}, d.noLam = true → RepD (c.wl L) S d v → RepD c S d v
  | .non, _, _, h => h
  | .bl _, _, _, h => h
  | .int _, _, _, h => h
  | .str _, _, _, h => h
  | .tup xs, _, n, ⟨p, vs, e, h1, h2⟩ => ⟨p, vs, e, h1, RepDs.unwl n h2⟩
  | .lst xs, _, n, ⟨p, vs, e, h1, h2, h3⟩ => ⟨p, vs, e, h1, h2, RepDs.unwl n h3⟩
  | .dic t kvs, _, n, ⟨p, vs, e, h1, h2, h3⟩ => ⟨p, vs, e, h1, h2, RepKs.unwl n h3⟩
  | .scr _, _, _, h => h
  | .loc _, _, _, h => h
  | .exn _, _, _, h => h
  | .lam _ _, _, n, _ => by cases n
theorem RepDs.unwl : ∀ {d : List D} {v : List V}, D.noLams d = true → RepDs (c.wl L) S d v → RepDs c S d v
  | [], _, _, h => h
  | d :: ds, _, n, ⟨v, r, e, h1, h2⟩ => by
    unfold D.noLams at n
    rw [Bool.and_eq_true] at n
    exact ⟨v, r, e, RepD.unwl n.1 h1, RepDs.unwl n.2 h2⟩
theorem RepKs.unwl : ∀ {t : Bool} {d : List (D × D)} {v : List V}, D.noLamk d = true → RepKs (c.wl L) S t d v → RepKs c S t d v
  | _, [], _, _, h => h
  | false, (k, d) :: ds, _, n, ⟨h0, v, r, e, h1, h2⟩ => by
    unfold D.noLamk at n
    rw [Bool.and_eq_true] at n
    exact ⟨h0, v, r, e, RepD.unwl n.1 h1, RepKs.unwl n.2 h2⟩
  | true, (k, d) :: ds, _, n, ⟨h0, q, v, r, e, hk, h1, h2⟩ => by
    unfold D.noLamk at n
    rw [Bool.and_eq_true] at n
    exact ⟨h0, q, v, r, e, RepD.unwl (tupKey_lam (keyOk_tup h0)) hk, RepD.unwl n.1 h1, RepKs.unwl n.2 h2⟩
end
theorem RepM.noLam (hx : c.lam = none) {pl : Pl} {m : M} {v : V} (r : RepM c S pl m v) : m.frz.noLam = true := by
  cases m with
  | val d => exact RepD.noLam hx r
  | ol xs => obtain ⟨p, vs, _, _, _, h⟩ := r; exact RepDs.noLam hx h
  | od t kvs => obtain ⟨p, vs, _, _, _, h⟩ := r; exact RepKs.noLam hx h
theorem RepM.wl (hx : c.lam = none) {pl : Pl} {m : M} {v : V} (r : RepM c S pl m v) : RepM (c.wl L) S pl m v := by
  cases m with
  | val d => exact RepD.wl hx r
  | ol xs => obtain ⟨p, vs, e, h1, h2, h⟩ := r; exact ⟨p, vs, e, h1, h2, RepDs.wl hx h⟩
  | od t kvs => obtain ⟨p, vs, e, h1, h2, h⟩ := r; exact ⟨p, vs, e, h1, h2, RepKs.wl hx h⟩
theorem RepM.unwl {pl : Pl} {m : M} {v : V} (n : m.frz.noLam = true) (r : RepM (c.wl L) S pl m v) : RepM c S pl m v := by
  cases m with
  | val d => exact RepD.unwl n r
  | ol xs => obtain ⟨p, vs, e, h1, h2, h⟩ := r; exact ⟨p, vs, e, h1, h2, RepDs.unwl n h⟩
  | od t kvs => obtain ⟨p, vs, e, h1, h2, h⟩ := r; exact ⟨p, vs, e, h1, h2, RepKs.unwl n h⟩
theorem RepF.wl (hx : c.lam = none) {n : Nat} : ∀ {fs : List (String × M)} {gs : List (Str × V)}, RepF c S n fs gs → RepF (c.wl L) S n fs gs
  | [], _, h => h
  | (f, m) :: r, _, ⟨v, q, e, h1, h2⟩ => ⟨v, q, e, h1.wl hx, RepF.wl hx h2⟩
theorem RepF.unwl (hx : c.lam = none) {n : Nat} {S0 : Wd} : ∀ {fs : List (String × M)} {gs gs0 : List (Str × V)}, RepF c S0 n fs gs0 → RepF (c.wl L) S n fs gs → RepF c S n fs gs
  | [], _, _, _, h => h
  | (f, m) :: r, _, _, ⟨_, _, _, g1, g2⟩, ⟨v, q, e, h1, h2⟩ => ⟨v, q, e, h1.unwl (g1.noLam hx), RepF.unwl hx g2 h2⟩
theorem RepO.wl (hx : c.lam = none) {n : Nat} {p : Addr} {o : SObj} (r : RepO c S n p o) : RepO (c.wl L) S n p o := by
  cases o with
  | ins kk fs => obtain ⟨dx, fs', h1, h2, h3⟩ := r; exact ⟨dx, fs', h1, h2.wl hx, h3⟩
  | lst xs => obtain ⟨vs, h1, h2⟩ := r; exact ⟨vs, h1, h2.wl hx⟩
  | dic t kvs => obtain ⟨vs, h1, h2⟩ := r; exact ⟨vs, h1, h2.wl hx⟩
theorem RepO.unwl (hx : c.lam = none) {S0 : Wd} {n : Nat} {p p0 : Addr} {o : SObj} (r0 : RepO c S0 n p0 o) (r : RepO (c.wl L) S n p o) : RepO c S n p o := by
  cases o with
  | ins kk fs =>
    obtain ⟨_, _, _, g, _⟩ := r0
    obtain ⟨dx, fs', h1, h2, h3⟩ := r
    exact ⟨dx, fs', h1, RepF.unwl hx g h2, h3⟩
  | lst xs =>
    obtain ⟨_, _, g⟩ := r0
    obtain ⟨vs, h1, h2⟩ := r
    exact ⟨vs, h1, h2.unwl (g.noLam hx)⟩
  | dic t kvs =>
    obtain ⟨_, _, g⟩ := r0
    obtain ⟨vs, h1, h2⟩ := r
    exact ⟨vs, h1, h2.unwl (g.noLam hx)⟩
theorem RlS.wl (hx : c.lam = none) {s : Store} (R : RlS c S s) : RlS (c.wl L) S s :=
  ⟨R.len, fun n e h => by obtain ⟨p, h1, h2, h3⟩ := R.obj n e h; exact ⟨p, h1, h2, h3.wl hx⟩, R.dom, R.src, ⟨R.hl.n, R.hl.t⟩⟩
theorem RlS.unwl (hx : c.lam = none) {S0 : Wd} {s : Store} (R0 : RlS c S0 s) (R : RlS (c.wl L) S s) : RlS c S s :=
  ⟨R.len, fun n e h => by
    obtain ⟨p0, _, _, g⟩ := R0.obj n e h
    obtain ⟨p, h1, h2, h3⟩ := R.obj n e h
    exact ⟨p, h1, h2, RepO.unwl hx g h3⟩, R.dom, R.src, ⟨R.hl.n, R.hl.t⟩⟩
theorem Rl.wl (hx : c.lam = none) {e : OI.Env} {s : Store} {σ : L2.St} (R : Rl c S e s σ) : Rl (c.wl L) S e s σ :=
  ⟨R.toRlS.wl hx, R.elen, fun i m h => by obtain ⟨v, h1, h2⟩ := R.slot i m h; exact ⟨v, h1, h2.wl hx⟩⟩
end


/-! ### a lambda's text, where it stands -/
structure LamTx where
  N : List Str
  params : Arguments
  body : Expr
  scope : Scope
structure LamTx.Ok (T : LamTx) : Prop where
  kind : T.scope.kind = .function
  co : T.scope.isCoroutine = false
  gen : T.scope.isGenerator = false
  own : ∀ y ∈ T.scope.names, y.2 ≠ .local ∧ y.2 ≠ .cell
  bind : ∀ (q : Str) (cl : List (Str × Addr)) (pm cv ctv : Value), bindArgs (PySem.W.kla_fn "<lambda>" q T.params T.body T.scope cl pm cv ctv) ⟨[], []⟩ = pure []
/-- the function object's cells: what is captured -/
structure ClosAt (T : LamTx) (vs : List V) (clos : List (Str × Addr)) (h : Heap) (H : Hp) : Prop where
  inj : ∀ x y a, clos.lookup x = some a → clos.lookup y = some a → x = y
  has : ∀ y, T.scope.names.lookup y = some .free → ∃ a, clos.lookup y = some a
  cell : ∀ y a, clos.lookup y = some a → H a = none ∧ ∃ v, h.IsCell a v
  val : ∀ (i : Nat) (y : Str) (v : V) (a : Addr), T.N[i]? = some y → vs[i]? = some v → clos.lookup y = some a → ∃ u, h.IsCell a (some u) ∧ RelV v u
/-- the lambda of the text T stands at L, known to nobody -/
def LamAt (T : LamTx) (L : LamI) (fs : List Addr) (h : Heap) (H : Hp) : Prop :=
  ∃ (clos : List (Str × Addr)) (pm ctv : Value), h.get? L.f = some (PySem.W.kla_obj "<lambda>" L.q T.params T.body T.scope clos pm L.cd ctv) ∧ H L.f = none ∧ L.f ∉ fs ∧ ClosAt T L.vs clos h H
theorem cell_un {fs : List Addr} {h h' : Heap} {H H' : Hp} (u : Un fs [] H H' h h') {a : Addr} {v : Option Value} (n : H a = none) (x : h.IsCell a v) : h'.IsCell a v := by
  obtain ⟨o, ho, hd⟩ := x
  obtain ⟨sl, e⟩ := u.any ho n (by simp)
  exact ⟨_, e, hd⟩
theorem LamAt.kept {T : LamTx} {L : LamI} {fs : List Addr} {h h' : Heap} {H H' : Hp} (l : LamAt T L fs h H) (u : Un fs [] H H' h h') : LamAt T L fs h' H' := by
  obtain ⟨clos, pm, ctv, h1, h2, h3, h4⟩ := l
  refine ⟨clos, pm, ctv, u.keep _ _ h1 h2 h3 (by simp), u.free _ _ h1 h2 (by simp), h3, h4.inj, h4.has, fun y a e => ?_, fun i y v a e1 e2 e3 => ?_⟩
  · obtain ⟨n, v, o, ho, hd⟩ := h4.cell y a e
    exact ⟨u.free _ _ ho n (by simp), v, cell_un u n ⟨o, ho, hd⟩⟩
  · obtain ⟨w, x, r⟩ := h4.val i y v a e1 e2 e3
    exact ⟨w, cell_un u (h4.cell y a e3).1 x, r⟩
section
variable {P : Program} {w : World} {K : PySem.W.Frag} {mg : Str → Option Value} {base : Heap} {T : LamTx} {L : LamI}
abbrev lamE (T : LamTx) (L : LamI) (clos : List (Str × Addr)) (loc : Addr) : PySem.Env := PySem.W.envX L.q T.scope loc L.f (.ref L.cd) clos
/-- the context of its body, entered at s from the frames outer -/
def lamC (P : Program) (w : World) (K : PySem.W.Frag) (mg : Str → Option Value) (base : Heap) (T : LamTx) (L : LamI) (clos : List (Str × Addr)) (A : Around) (outer : List PySem.Env) (s : Shared) (H : Hp) (E : XK) : Cx :=
  { prog := P, w := w, K := K, mg := mg, base := base, A := A.deeper (lamE T L clos s.heap.objs.size), N := T.N, s_0 := s, H_0 := H, env := lamE T L clos s.heap.objs.size, outer := outer, stack := lamE T L clos s.heap.objs.size :: outer,
    ex := [], fn := fun _ => false, calm := true, pn := [],
    xe := fun x s' => wpAny (model P w) (A.deeper (lamE T L clos s.heap.objs.size)) (leaving (lamE T L clos s.heap.objs.size) x) (fun _ s'' => L2.CX P w outer H s E x s'') (fun y s'' => L2.CX P w outer H s E y s'') s' }
theorem lam_inv {clos : List (Str × Addr)} {A : Around} {outer : List PySem.Env} {s : Shared} {H : Hp} {E : XK} {h1 : Heap} {tk : Nat} (O : T.Ok) (C : ClosAt T L.vs clos s.heap H) (hl : L.vs.length = T.N.length) (e0 : Env0 P w K mg base A outer s H) (hd : A.handled = none)
    (hns : h1.Ns s.heap.objs.size fun y => ([] : List (Str × Value)).reverse.lookup y) (kp : ∀ b o, s.heap.get? b = some o → h1.get? b = some o) : Inv (lamC P w K mg base T L clos A outer s H E) [] (L.vs.map some) H { s with heap := h1, toks := tk } := by
  have nil : ∀ {b : Addr} {p : Prop}, b ∈ ([] : List Addr) → p := fun z => nomatch z
  have ok : (lamC P w K mg base T L clos A outer s H E).Ok :=
    { mod := e0.mod, kind := O.kind, glob := rfl, blt := rfl, above := Nat.le_refl _, inj := C.inj
      has := fun y hy => by
        have hy : T.scope.names.lookup y = some .cell ∨ T.scope.names.lookup y = some .free := hy
        exact hy.elim (fun z => absurd rfl (O.own _ (PySem.mem_of_lookup z)).2) (C.has y)
      cab := fun y c z => by cases (show false = true from z)
      hd := fun _ => hd, frames := Around.frames_deeper e0.frames, stk := .inr ⟨rfl, rfl⟩, exf := fun b z => nil z, bs := e0.bs, bsz := e0.bsz, noex := fun b o _ z => nil z, exfs := fun b z => nil z, funs := e0.funs, frf := e0.frf }
  exact
    { ok := ok, os := rfl, bare := e0.bare, base := Un.kept kp
      loc := ⟨_, hns, fun i y v e1 e2 e3 => by
        have e1 : T.N[i]? = some y := e1
        have ev : L.vs[i]? = some v := by
          rw [List.getElem?_map] at e2
          cases q : L.vs[i]? with
          | none => rw [q] at e2; cases e2
          | some x => rw [q] at e2; cases e2; rfl
        have e3 : Vis T.scope y := e3
        rcases e3 with k | k | k
        · exact absurd rfl (O.own _ (PySem.mem_of_lookup k)).1
        · exact absurd rfl (O.own _ (PySem.mem_of_lookup k)).2
        · obtain ⟨a, ha⟩ := C.has y k
          obtain ⟨u, hc, r⟩ := C.val i y v a e1 ev ha
          exact ⟨u, r, .inr ⟨.inr k, a, ha, hc.keeps kp⟩⟩⟩
      cell := fun y a e => by
        obtain ⟨_, v, hc⟩ := C.cell y a e
        exact ⟨v, hc.keeps kp⟩
      free := e0.hok.fresh (Nat.le_refl _), freeC := fun y a e => (C.cell y a e).1
      pin := fun p hp => by cases (show p ∈ ([] : List (Addr × Obj)) from hp)
      hok := e0.hok.kept kp
      len := by rw [List.length_map]; exact hl }
/-- IT IS CALLED: what its body promises -/
theorem lam_run {k : Nat} {A : Around} {outer : List PySem.Env} {s : Shared} {H : Hp} {Q : VK} {E : XK} (O : T.Ok) (hl : L.vs.length = T.N.length) (l : LamAt T L (frs outer) s.heap H) (code : H L.cd = some (LamX.CodeO L.cd L.q)) (hr : Room (k + 1) A) (e0 : Env0 P w K mg base A outer s H)
    (hb : ∀ clos, Room k (A.deeper (lamE T L clos s.heap.objs.size)) → ∃ t, PE (lamC P w K mg base T L clos A outer s H E) T.body t ∧ t (L.vs.map some) H Q) : codeAny (model P w) A (.call (.ref L.f) ⟨[], []⟩) (CR (L2.CX P w) outer P w H s Q E) s := by
  obtain ⟨clos, pm, ctv, h1, h2, h3, C⟩ := l
  obtain ⟨⟨oc, fv, tq, f1, f2, f3⟩, _⟩ := e0.hok _ _ code
  have lim : s.heap.NoLimit := e0.mod.nolimit.keeps fun b o e => (e0.bs b o e).1
  refine PySem.W.kla_callFunE hr.depth h1 rfl O.co O.gen rfl ⟨L.cd, oc, fv, tq, rfl, f1, f2, f3⟩ ?_
  rw [O.bind]
  refine wpAny_pure (wpAny_newFunctionEnv (fun y hy => (O.own y hy).2) (fun y hy => absurd hy (by simp)) (fun g hg hs => ⟨lim.fresh _ hs, ?_⟩) O.kind)
  have kp : ∀ b o, s.heap.get? b = some o → g.get? b = some o := fun b o e => hs.extBut b o (Nat.ne_of_lt (Heap.lt_size e)) (Heap.get?_push_of_some _ e)
  show codeAny (model P w) A (.expr T.body (lamE T L clos s.heap.objs.size)) _ _
  obtain ⟨t, hp, ht⟩ := hb clos (hr.deeper _)
  refine PySem.W.kla_codeExpr (wpAny_mono (hp.run [] _ _ H Q (lam_inv O C hl e0 hr.hd hg kp) ht) (fun u s' q => ?_) fun _ _ q => q)
  obtain ⟨v, H', J, rv, qq⟩ := q
  exact ⟨v, H', J.os, J.bare, J.base, J.hok, rv, qq⟩
end

/-! ### it is called -/
/-- the lambda in hand may be called here -/
def AppC (X : Cx) (c : Cn) (R : Runs) : Prop :=
  ∃ (T : LamTx) (L : LamI) (j : Nat), c.lam = some L ∧ T.Ok ∧ L.vs.length = T.N.length ∧ LamAt T L X.fs X.s_0.heap X.H_0 ∧ X.ex = [] ∧ Room (j + 1) X.A ∧
    ∀ (A : Around) (outer : List PySem.Env) (s : Shared) (H : Hp) (E : XK) (clos : List (Str × Addr)), Room j (A.deeper (lamE T L clos s.heap.objs.size)) →
      ∃ t, PE (lamC X.prog X.w X.K X.mg X.base T L clos A outer s H E) T.body t ∧ ∀ Q, spF c R L.g L.vs.length L.vs H Q E → t (L.vs.map some) H Q
section
variable {X : Cx} {c : Cn} {W : WX} {R : Runs}
theorem LamAt.now {T : LamTx} {L : LamI} {pins : List (Addr × Obj)} {σ : L2.St} {H : Hp} {s : Shared} (l : LamAt T L X.fs X.s_0.heap X.H_0) (hx : X.ex = []) (I : Inv X pins σ H s) : LamAt T L (frs X.stack) s.heap H := by
  have u := I.base
  rw [hx] at u
  obtain ⟨clos, pm, ctv, h1, h2, h3, h4⟩ := l.kept u
  refine ⟨clos, pm, ctv, h1, h2, fun z => ?_, h4⟩
  rcases List.mem_cons.mp (I.stkSub _ z) with e | e
  · obtain ⟨_, _, _, g, _⟩ := l
    have h5 := Heap.lt_size g
    rw [e] at h5
    exact absurd (Nat.lt_of_lt_of_le h5 I.ok.above) (Nat.lt_irrefl _)
  · exact h3 e
theorem s_lapp {i : Nat} {a : Str} {p1 p2 : Pos} (hN : X.N[i]? = some a) (hv : Vis X.env.scope a) (hd : (a == ("__debug__" : Str)) = false) (hcd : (a == ("__classdict__" : Str)) = false) (ap : AppC X c R) (tk : Takes X W) : PE X (.Call (.Name a p1) [] [] p2) (tE c W (ev R (.app (.var i)))) := by
  refine ⟨fun pins s σ H Q I q => ?_⟩
  obtain ⟨S, e, st, rfl, Rr, p⟩ := q
  replace p : PostG c W σ S st ((varK e[i]? i e st).bind (appK R)) (rM c σ) Q := p
  unfold varK at p
  split at p
  · rename_i m hm
    replace p : PostG c W σ S st (appK R (m, .slot i) e st) (rM c σ) Q := p
    obtain ⟨v, h1, h2⟩ := Rr.slot i m hm
    unfold appK at p
    dsimp only at p
    split at p
    · rename_i g ds
      obtain ⟨L', e1, eg, ev, hc, ho, rds⟩ := h2
      obtain ⟨T, L, j, l1, O, hl, at0, hx, hr, hb⟩ := ap
      rw [l1] at e1
      have e1 := Option.some.inj e1
      subst e1
      have sp := call_of Rr rds p
      rw [← rds.length, ← eg] at sp
      subst ev
      refine wpAny_Call_Name_kw (thn ((pe_var (pos := p1) hN hv hd hcd).run pins s σ S.H (fun v H1 => v = .ref L.f ∧ H1 = S.H) I ⟨_, h1, rfl, rfl⟩) fun u s1 hh => ?_)
      obtain ⟨v1, H1, I1, r1, q1, q2⟩ := hh
      subst q1 q2
      cases (show u = Value.ref L.f from r1)
      have now := at0.now hx I1
      obtain ⟨clos, pm, ctv, g1, _⟩ := id now
      refine PySem.W.callWith_F0 ⟨_, _, _, _, g1⟩ (wpAny_call (codeAny_mono (lam_run O hl now hc hr I1.env0 (E := WE W σ) (Q := Q) fun clos hr' => ?_) fun r s' hq => ?_))
      · obtain ⟨t, h3, h4⟩ := hb X.A X.stack s1 S.H (WE W σ) clos hr'
        exact ⟨t, h3, h4 Q sp⟩
      · cases r with
        | error x => exact passAt tk σ pins S.H s1 x s' I1 hq
        | ok fl =>
          cases fl with
          | ret u => exact I1.after hq
          | next => exact False.elim hq
          | brk => exact False.elim hq
          | cont => exact False.elim hq
    · exact p.elim
  · exact p.elim
end

/-! ### it is made and handed to a def -/
theorem hln_of {P : Program} {w : World} {H : Hp} {h : Heap} (x : HOk P w H h) : HLn H := fun a => ⟨fun xs e => by
    obtain ⟨z, _⟩ := x a _ e
    rw [sizeLine_eq] at z
    exact z, fun xs e => by
    obtain ⟨z, _⟩ := x a _ e
    rw [sizeLine_eq] at z
    exact z, fun xs e => by
    obtain ⟨z, _⟩ := x a _ e
    rw [sizeLine_eq] at z
    exact z⟩
/-- this def makes lambdas: its code object, its table -/
def MkOk (X : Cx) (c : Cn) : Prop := ∃ cc P, X.env.code = .ref cc ∧ LamX.TabB X.base X.mg cc P ∧ (P, X.env.qual ++ "<lambda>") ∈ c.tb ∧ ∀ p ∈ c.tb, p.1 = P → p.2 = X.env.qual ++ "<lambda>"
/-- a def that takes a lambda of the text T, named g -/
def LcOk (X : Cx) (c : Cn) (R : Runs) (f g : String) (T : LamTx) : Prop :=
  ∃ (fa : Addr) (j : Nat), X.mg (Str.ofString f) = some (.ref fa) ∧ PySem.W.keepIn X.K (.ref fa) = true ∧ Room j X.A ∧
    ∀ (L : LamI) (A : Around) (outer : List PySem.Env) (s : Shared) (H : Hp) (Q : VK), L.g = g → L.vs.length = T.N.length → Room j A → Env0 X.prog X.w X.K X.mg X.base A outer s H → LamAt T L (frs outer) s.heap H → H L.cd = some (LamX.CodeO L.cd L.q) →
      spF (c.wl L) R f 1 [.ref L.f] H Q (fun _ _ _ => False) → codeAny (model X.prog X.w) A (.call (.ref fa) ⟨[.ref L.f], []⟩) (CR (L2.CX X.prog X.w) outer X.prog X.w H s Q fun _ _ _ => False) s
theorem caps_ok {c : Cn} {S : Wd} {e : OI.Env} {s : Store} {σ : L2.St} (R : Rl c S e s σ) : ∀ {is : List Nat} {ds : List D}, capsOf e is = some ds → ∃ vs, RepDs c S ds vs ∧ vs.length = is.length ∧ ∀ (k i : Nat), is[k]? = some i → ∃ v, vs[k]? = some v ∧ σ[i]? = some (some v)
  | [], ds, h => by
    cases h
    exact ⟨[], rfl, rfl, fun k i z => by simp at z⟩
  | i :: is, ds, h => by
    unfold capsOf at h
    split at h
    · rename_i d hd
      cases q : capsOf e is with
      | none => rw [q] at h; cases h
      | some r =>
        rw [q] at h
        cases h
        obtain ⟨vs, h1, h2, h3⟩ := caps_ok R q
        obtain ⟨v, h4, h5⟩ := R.slot i _ hd
        refine ⟨v :: vs, ⟨v, vs, rfl, h5, h1⟩, by rw [List.length_cons, List.length_cons, h2], fun k j z => ?_⟩
        cases k with
        | zero =>
          simp only [List.getElem?_cons_zero, Option.some.injEq] at z
          subst z
          exact ⟨v, rfl, h4⟩
        | succ k =>
          simp only [List.getElem?_cons_succ] at z ⊢
          exact h3 k j z
    · cases h
section
variable {X : Cx} {c : Cn} {W : WX} {R : Runs}
/-- its cells -/
theorem clos_at {T : LamTx} {vs : List V} {caps : List Nat} {pins : List (Addr × Obj)} {σ : L2.St} {H : Hp} {s : Shared} (I : Inv X pins σ H s) (hfree : ∀ y ∈ T.scope.names, y.2 = .free → X.env.scope.names.lookup y.1 = some .cell ∨ X.env.scope.names.lookup y.1 = some .free)
    (hN : ∀ (k : Nat) (y : Str), T.N[k]? = some y → ∃ i, caps[k]? = some i ∧ X.N[i]? = some y) (hv : ∀ (k i : Nat), caps[k]? = some i → ∃ v, vs[k]? = some v ∧ σ[i]? = some (some v)) : ClosAt T vs (cloFrom X.env.cells T.scope.names []) s.heap H := by
  have there : ∀ y, (y, NameKind.free) ∈ T.scope.names → ∃ a, X.env.cells.lookup y = some a := fun y hy => I.ok.has y (hfree _ hy rfl)
  have back : ∀ y a, (cloFrom X.env.cells T.scope.names []).lookup y = some a → (y, NameKind.free) ∈ T.scope.names ∧ X.env.cells.lookup y = some a := fun y a e => by
    rcases cloFrom_mem (PySem.mem_of_lookup e) with z | ⟨z, q⟩
    · cases z
    · obtain ⟨b, hb⟩ := there y z
      rw [hb] at q
      exact ⟨z, by rw [q]; exact hb⟩
  refine ⟨fun x y a e1 e2 => I.ok.inj x y a (back x a e1).2 (back y a e2).2, fun y e => mem_lookup (cloFrom_has (PySem.mem_of_lookup e)), fun y a e => ⟨I.freeC y a (back y a e).2, I.cell y a (back y a e).2⟩, fun k y v a e1 e2 e3 => ?_⟩
  obtain ⟨i, h1, h2⟩ := hN k y e1
  obtain ⟨v', h3, h4⟩ := hv k i h1
  rw [e2] at h3
  cases h3
  obtain ⟨m, _, hl⟩ := I.loc
  obtain ⟨g1, g2⟩ := back y a e3
  have k1 := hfree _ g1 rfl
  obtain ⟨u, r, q⟩ := hl i y v h2 h4 (k1.elim (fun z => .inr (.inl z)) fun z => .inr (.inr z))
  refine ⟨u, ?_, r⟩
  rcases q with ⟨z, _⟩ | ⟨_, b, hb, hc⟩
  · have z : X.env.scope.names.lookup y = some .local := z
    rcases k1 with k1 | k1 <;> rw [show X.env.scope.names.lookup y = _ from k1] at z <;> cases z
  · rw [g2] at hb
    cases hb
    exact hc
/-- the state with the lambda, as the def that gets it is asked -/
theorem lcall_of {f g : String} {L : LamI} {S : Wd} {s : Store} {e : OI.Env} {σ : L2.St} {ds : List D} {H1 : Hp} {Q : VK} (Rr : Rl c S e s σ) (hlam : c.lam = none) (hg : L.g = g) (r : RepDs c S ds L.vs) (eN : LamX.ExtN S.H H1) (T1 : LamX.Tabs c.tb H1) (hl : HLn H1) (hcd : H1 L.cd = some (LamX.CodeO L.cd L.q))
    (p : PostG c W σ S s (lcallK R f g ds e s) (rM c σ) Q) : spF (c.wl L) R f 1 [.ref L.f] H1 Q fun _ _ _ => False := by
  have lbl : ∀ {a : Addr} {q : Pl}, S.ow a = some q → H1 a = S.H a := fun {a q} h => by
    obtain ⟨o, e, n, _⟩ := Rr.dom a (by rw [h]; simp)
    rw [e]
    exact eN a o e n
  have fr : Fr S { S with H := H1 } := ⟨fun a o h1 h2 h3 => ⟨eN a o h1 h3, h2⟩, [], by simp⟩
  have R1 : Rl c { S with H := H1 } e s σ := Rr.step fr (fun p q n h _ => ⟨lbl h, h⟩) (fun p i h => ⟨lbl h, h⟩) rfl (fun a h => by
    obtain ⟨o, e, n⟩ := Rr.dom a h
    exact ⟨o, eN a o e n.1, n⟩) Rr.src ⟨hl, T1⟩
  have ste : StE S { S with H := H1 } s s := ⟨⟨fr, VerS.refl s, fun n en _ _ a p h _ => ⟨lbl h, h⟩, fun a h => ⟨lbl h, h⟩⟩, fun a i h => ⟨lbl h, .inl h⟩⟩
  have Rw : Rl (c.wl L) { S with H := H1 } e s σ := R1.wl hlam
  have how : S.ow L.cd = none := by
    cases q : S.ow L.cd with
    | none => rfl
    | some x =>
      obtain ⟨o, e, n1, n2⟩ := Rr.dom L.cd (by rw [q]; simp)
      have := eN _ _ e n1
      rw [hcd] at this
      exact absurd (Option.some.inj this).symm (n2 _)
  have rd : RepDs (c.wl L) ({ S with H := H1 } : Wd).mask ds L.vs := ((r.mono fr).wl hlam).mono (mask_sim _).fr
  refine ⟨({ S with H := H1 } : Wd).mask, s, [.lam g ds], rfl, (mask_sim _).rls Rw.toRlS, mask_noSl _, ⟨.ref L.f, [], rfl, ⟨L, rfl, hg, rfl, hcd, ?_, rd⟩, rfl⟩, rfl, ?_⟩
  · rw [mask_ne (fun i z => by
      have z : S.ow L.cd = some (.slot i) := z
      rw [how] at z
      cases z)]
    exact how
  · unfold lcallK at p
    cases h : R f [.lam g ds] s with
    | err k s' => rw [h] at p; exact p.elim
    | bad => rw [h] at p; exact p.elim
    | ok m s' =>
      rw [h] at p
      dsimp only at p
      split at p
      · rename_i hm
        obtain ⟨rfl, hm⟩ := hm
        intro S' v R' st ns rp
        have R2 := unmask_rl Rw R' st
        refine p (({ S with H := H1 } : Wd).unmask S') v ⟨RlS.unwl hlam Rr.toRlS R2.toRlS, R2.elen, fun i m hi => ?_⟩ (ste.trans Rr.dom (unmask_ste st)) ⟨?_, trivial⟩
        · obtain ⟨v0, _, g0⟩ := Rr.slot i m hi
          obtain ⟨v1, g1, g2⟩ := R2.slot i m hi
          exact ⟨v1, g1, g2.unwl (g0.noLam hlam)⟩
        · cases m with
          | val d => cases d <;> first | exact rp | cases hm
          | ol xs => cases hm
          | od t kvs => cases hm
      · exact p.elim
theorem s_lcall {f g : String} {T : LamTx} {caps : List Nat} {p lpos pos : Pos} (lc : LcOk X c R f g T) (mk : MkOk X c) (hlam : c.lam = none) (hg : Gl X (Str.ofString f)) (hdb : (Str.ofString f == ("__debug__" : Str)) = false) (O : T.Ok) (hdef : defaultsOf T.params X.env = ([], []))
    (hfree : ∀ y ∈ T.scope.names, y.2 = .free → X.env.scope.names.lookup y.1 = some .cell ∨ X.env.scope.names.lookup y.1 = some .free) (hlen : caps.length = T.N.length) (hN : ∀ (k : Nat) (y : Str), T.N[k]? = some y → ∃ i, caps[k]? = some i ∧ X.N[i]? = some y) :
    PE X (.Call (.Name (Str.ofString f) p) [.Lambda T.params T.body T.scope lpos] [] pos) (tE c W (ev R (.lcall f g caps))) := by
  refine ⟨fun pins s σ H Q I q => ?_⟩
  obtain ⟨S, e, st, rfl, Rr, q⟩ := q
  replace q : PostG c W σ S st (lcallO R f g (capsOf e caps) e st) (rM c σ) Q := q
  cases hq : capsOf e caps with
  | none => rw [hq] at q; exact q.elim
  | some ds =>
    rw [hq] at q
    replace q : PostG c W σ S st (lcallK R f g ds e st) (rM c σ) Q := q
    obtain ⟨vs, r, hvl, hv⟩ := caps_ok Rr hq
    obtain ⟨fa, j, m1, m2, hr, run⟩ := lc
    obtain ⟨cc, P, k1, k2, k3, k4⟩ := mk
    refine wpAny_Call_Name_kw (ld_glob I hg m1 ?_ hdb)
    refine PySem.W.callWith_K (h₀ := X.base) I.ok.mod.kin m2 ?_ (by rfl) (by rfl)
    show wpAny _ _ (spliced ((false, eval (.Lambda T.params T.body T.scope lpos) X.env) :: backTo pos (starEach [] X.env))) _ _ s
    refine Calls.spliced_cons (LamX.lam_make2 (T := c.tb) I k2 k1 k3 k4 Rr.hl.t hdef (fun y hy z => I.ok.has _ (hfree y hy z)) fun fo co pm ctv H1 s1 I1 eN T1 hfo hfn hfr hco => ?_)
    refine Calls.spliced_nil ⟨I1.kIn, ?_⟩
    have sp := lcall_of (L := ⟨g, fo, co, X.env.qual ++ "<lambda>", vs⟩) Rr hlam rfl r eN T1 (hln_of I1.hok) hco q
    have la : LamAt T ⟨g, fo, co, X.env.qual ++ "<lambda>", vs⟩ (frs X.stack) s1.heap H1 := ⟨_, pm, ctv, hfo, hfn, hfr, clos_at I1 hfree hN hv⟩
    refine wpAny_call (codeAny_mono (run _ X.A X.stack s1 H1 Q rfl (hvl.trans hlen) hr I1.env0 la hco sp) fun r s' h => ?_)
    cases r with
    | error x =>
      obtain ⟨_, _, _, _, _, _, _, _, _, _, _, _, z⟩ := h
      exact z.elim
    | ok fl =>
      cases fl with
      | ret u => exact I1.after h
      | next => exact False.elim h
      | brk => exact False.elim h
      | cont => exact False.elim h
end
end OI

set_option maxRecDepth 100000
set_option maxHeartbeats 2000000
/-! OIu7: zip of three lists, and its list. -/
namespace Z3
open PySem PySem.Spec PyProof.Rows L2
open PySem.Sem (wp)
theorem typeCall_zip_3 (a b c : Value) : checkTypeCall "zip" ⟨[a, b, c], []⟩ = pure () := by kernel_rfl
theorem newCall_zip_3 (a b c : Value) : checkBuiltinCall "zip.__new__" ⟨[.type "zip", a, b, c], []⟩ = pure () := by kernel_rfl
theorem args_object_init_4 (a b c d : Value) : argsOk "object.__init__" ⟨[a, b, c, d], []⟩ := by
  unfold argsOk; rw [PySem.signature?_of (id := "object.__init__") (n := ['_', '_', 't', 'i', 'n', 'i', '_', '_']) (o := ['t', 'c', 'e', 'j', 'b', 'o']) (by kernel_rfl) PySem.F.owner_object]; kernel_rfl
abbrev itO (l : Addr) : Obj := { cls := .type "list_iterator", data := .fields #[.ref l, .int 0 0] }
abbrev tupO (vs : Array Value) : Obj := { cls := .type "tuple", data := .seq vs }
abbrev zipO (f0 f1 : Value) (TI TO : Addr) : Obj := { cls := .type "zip", dict := none, data := .fields #[f0, f1, .bool false, .ref TI, .ref TO], slots := #[] }
abbrev H1 (h : Heap) (l1 : Addr) : Heap := h.push (itO l1)
abbrev H2 (h : Heap) (l1 l2 : Addr) : Heap := (H1 h l1).push (itO l2)
abbrev H3 (h : Heap) (l1 l2 l3 : Addr) : Heap := (H2 h l1 l2).push (itO l3)
abbrev H4 (h : Heap) (l1 l2 l3 : Addr) : Heap := (H3 h l1 l2 l3).push (tupO #[.ref h.objs.size, .ref (H1 h l1).objs.size, .ref (H2 h l1 l2).objs.size])
abbrev H5 (h : Heap) (l1 l2 l3 : Addr) : Heap := (H4 h l1 l2 l3).push (tupO #[.none, .none, .none])
abbrev H6 (h : Heap) (l1 l2 l3 : Addr) : Heap := (H5 h l1 l2 l3).push (zipO .none (.bool false) (H3 h l1 l2 l3).objs.size (H4 h l1 l2 l3).objs.size)
theorem meets_zip_new (l1 l2 l3 : Addr) (xs ys zs : Array Value) :
    Meets (Builtin.«zip.__new__» ⟨[.type "zip", .ref l1, .ref l2, .ref l3], []⟩) (fun _ R s => s.heap.IsList l1 xs ∧ s.heap.IsList l2 ys ∧ s.heap.IsList l3 zs ∧
      R (.ok (.ret (.ref (H5 s.heap l1 l2 l3).objs.size))) { s with heap := H6 s.heap l1 l2 l3 }) :=
  .of_wp fun prog w A R s h => by
    obtain ⟨hp, g, d, tk, os⟩ := s; obtain ⟨hl1, hl2, hl3, h⟩ := h
    have hsub := sub_zip
    have hL1 : Heap.IsList (Shared.heap ⟨hp, g, d, tk, os⟩) l1 xs := hl1
    have hL2 : Heap.IsList (Shared.heap ⟨hp.push (itO l1), g, d, tk, os⟩) l2 ys := Heap.IsList.push hl2 _
    have hL3 : Heap.IsList (Shared.heap ⟨(hp.push (itO l1)).push (itO l2), g, d, tk, os⟩) l3 zs := Heap.IsList.push (Heap.IsList.push hl3 _) _
    wp_walk using wpAny_pyIter_list hL1, wpAny_pyIter_list hL2, wpAny_pyIter_list hL3
    exact ⟨_, rfl, h⟩
/-- a zip of three made at n, as it stands -/
structure S3 (h : Heap) (n l1 l2 l3 : Nat) (f0 f1 : Value) (k1 k2 k3 : Nat) (xs ys zs : Array Value) (a b c : Value) : Prop where
  z : h.get? (n + 5) = some (zipO f0 f1 (n + 3) (n + 4))
  ti : h.get? (n + 3) = some (tupO #[.ref n, .ref (n + 1), .ref (n + 2)])
  to : h.get? (n + 4) = some (tupO #[a, b, c])
  i1 : h.IsListIter n l1 k1
  i2 : h.IsListIter (n + 1) l2 k2
  i3 : h.IsListIter (n + 2) l3 k3
  p1 : h.IsList l1 xs
  p2 : h.IsList l2 ys
  p3 : h.IsList l3 zs
  lt1 : l1 < n
  lt2 : l2 < n
  lt3 : l3 < n
section
variable {h h' : Heap} {n l1 l2 l3 : Nat} {f0 f1 g0 g1 : Value} {k1 k2 k3 j1 : Nat} {xs ys zs : Array Value} {a b c a' b' c' : Value}
theorem S3.at (S : S3 h n l1 l2 l3 f0 f1 k1 k2 k3 xs ys zs a b c) (k : ∀ b o, h.get? b = some o → h'.get? b = some o) : S3 h' n l1 l2 l3 f0 f1 k1 k2 k3 xs ys zs a b c :=
  ⟨k _ _ S.z, k _ _ S.ti, k _ _ S.to, S.i1.at fun o e => k _ o e, S.i2.at fun o e => k _ o e, S.i3.at fun o e => k _ o e, S.p1.at fun o e => k _ o e, S.p2.at fun o e => k _ o e, S.p3.at fun o e => k _ o e, S.lt1, S.lt2, S.lt3⟩
theorem S3.setZ (S : S3 h n l1 l2 l3 f0 f1 k1 k2 k3 xs ys zs a b c) (k : ∀ (b : Nat) o, b ≠ n + 5 → h.get? b = some o → h'.get? b = some o) (e : h'.get? (n + 5) = some (zipO g0 g1 (n + 3) (n + 4))) : S3 h' n l1 l2 l3 g0 g1 k1 k2 k3 xs ys zs a b c :=
  have q1 := S.lt1; have q2 := S.lt2; have q3 := S.lt3
  ⟨e, k _ _ (by omega) S.ti, k _ _ (by omega) S.to, S.i1.at fun o e => k _ o (by omega) e, S.i2.at fun o e => k _ o (by omega) e, S.i3.at fun o e => k _ o (by omega) e, S.p1.at fun o e => k _ o (by omega) e, S.p2.at fun o e => k _ o (by omega) e, S.p3.at fun o e => k _ o (by omega) e, S.lt1, S.lt2, S.lt3⟩
theorem S3.setO (S : S3 h n l1 l2 l3 f0 f1 k1 k2 k3 xs ys zs a b c) (k : ∀ (b : Nat) o, b ≠ n + 4 → h.get? b = some o → h'.get? b = some o) (e : h'.get? (n + 4) = some (tupO #[a', b', c'])) : S3 h' n l1 l2 l3 f0 f1 k1 k2 k3 xs ys zs a' b' c' :=
  have q1 := S.lt1; have q2 := S.lt2; have q3 := S.lt3
  ⟨k _ _ (by omega) S.z, k _ _ (by omega) S.ti, e, S.i1.at fun o e => k _ o (by omega) e, S.i2.at fun o e => k _ o (by omega) e, S.i3.at fun o e => k _ o (by omega) e, S.p1.at fun o e => k _ o (by omega) e, S.p2.at fun o e => k _ o (by omega) e, S.p3.at fun o e => k _ o (by omega) e, S.lt1, S.lt2, S.lt3⟩
theorem S3.set1 (S : S3 h n l1 l2 l3 f0 f1 k1 k2 k3 xs ys zs a b c) (k : ∀ (b : Nat) o, b ≠ n → h.get? b = some o → h'.get? b = some o) (e : h'.IsListIter n l1 j1) : S3 h' n l1 l2 l3 f0 f1 j1 k2 k3 xs ys zs a b c :=
  have q1 := S.lt1; have q2 := S.lt2; have q3 := S.lt3
  ⟨k _ _ (by omega) S.z, k _ _ (by omega) S.ti, k _ _ (by omega) S.to, e, S.i2.at fun o e => k _ o (by omega) e, S.i3.at fun o e => k _ o (by omega) e, S.p1.at fun o e => k _ o (by omega) e, S.p2.at fun o e => k _ o (by omega) e, S.p3.at fun o e => k _ o (by omega) e, S.lt1, S.lt2, S.lt3⟩
theorem S3.set2 (S : S3 h n l1 l2 l3 f0 f1 k1 k2 k3 xs ys zs a b c) (k : ∀ (b : Nat) o, b ≠ n + 1 → h.get? b = some o → h'.get? b = some o) (e : h'.IsListIter (n + 1) l2 j1) : S3 h' n l1 l2 l3 f0 f1 k1 j1 k3 xs ys zs a b c :=
  have q1 := S.lt1; have q2 := S.lt2; have q3 := S.lt3
  ⟨k _ _ (by omega) S.z, k _ _ (by omega) S.ti, k _ _ (by omega) S.to, S.i1.at fun o e => k _ o (by omega) e, e, S.i3.at fun o e => k _ o (by omega) e, S.p1.at fun o e => k _ o (by omega) e, S.p2.at fun o e => k _ o (by omega) e, S.p3.at fun o e => k _ o (by omega) e, S.lt1, S.lt2, S.lt3⟩
theorem S3.set3 (S : S3 h n l1 l2 l3 f0 f1 k1 k2 k3 xs ys zs a b c) (k : ∀ (b : Nat) o, b ≠ n + 2 → h.get? b = some o → h'.get? b = some o) (e : h'.IsListIter (n + 2) l3 j1) : S3 h' n l1 l2 l3 f0 f1 k1 k2 j1 xs ys zs a b c :=
  have q1 := S.lt1; have q2 := S.lt2; have q3 := S.lt3
  ⟨k _ _ (by omega) S.z, k _ _ (by omega) S.ti, k _ _ (by omega) S.to, S.i1.at fun o e => k _ o (by omega) e, S.i2.at fun o e => k _ o (by omega) e, e, S.p1.at fun o e => k _ o (by omega) e, S.p2.at fun o e => k _ o (by omega) e, S.p3.at fun o e => k _ o (by omega) e, S.lt1, S.lt2, S.lt3⟩
end
section
variable {prog : Program} {w : World} {A : Around} {E : Value → Shared → Prop} {s : Shared}
theorem call_zip_3 {l1 l2 l3 : Addr} {xs ys zs : Array Value} {Q : Value → Shared → Prop} (hl1 : s.heap.IsList l1 xs) (hl2 : s.heap.IsList l2 ys) (hl3 : s.heap.IsList l3 zs)
    (h : ∀ h', S3 h' s.heap.objs.size l1 l2 l3 .none (.bool false) 0 0 0 xs ys zs .none .none .none → h'.objs.size = s.heap.objs.size + 6 →
      (∀ c o, s.heap.get? c = some o → h'.get? c = some o) → Q (.ref (s.heap.objs.size + 5)) { s with heap := h' }) :
    wpAny (model prog w) A (call (.type "zip") [.ref l1, .ref l2, .ref l3]) Q E s := by
  refine callType_new PySem.F.called_zip (by decide) (typeCall_zip_3 _ _ _) (newCall_zip_3 _ _ _) (fun obj => args_object_init_4 obj _ _ _) PySem.F.entry_zip_new
    (meets_zip_new l1 l2 l3 xs ys zs) ⟨hl1, hl2, hl3, ?_⟩
  have z1 : (H1 s.heap l1).objs.size = s.heap.objs.size + 1 := Heap.size_push ..
  have z2 : (H2 s.heap l1 l2).objs.size = s.heap.objs.size + 2 := by rw [Heap.size_push, z1]
  have z3 : (H3 s.heap l1 l2 l3).objs.size = s.heap.objs.size + 3 := by rw [Heap.size_push, z2]
  have z4 : (H4 s.heap l1 l2 l3).objs.size = s.heap.objs.size + 4 := by rw [Heap.size_push, z3]
  have z5 : (H5 s.heap l1 l2 l3).objs.size = s.heap.objs.size + 5 := by rw [Heap.size_push, z4]
  have z6 : (H6 s.heap l1 l2 l3).objs.size = s.heap.objs.size + 6 := by rw [Heap.size_push, z5]
  have g6 : (H6 s.heap l1 l2 l3).get? (H5 s.heap l1 l2 l3).objs.size = some _ := Heap.get?_push_size _ rfl
  have g5 : (H6 s.heap l1 l2 l3).get? (H4 s.heap l1 l2 l3).objs.size = some _ := Heap.get?_push_of_some _ (Heap.get?_push_size _ rfl)
  have g4 : (H6 s.heap l1 l2 l3).get? (H3 s.heap l1 l2 l3).objs.size = some _ := Heap.get?_push_of_some _ (Heap.get?_push_of_some _ (Heap.get?_push_size _ rfl))
  have g3 : (H6 s.heap l1 l2 l3).get? (H2 s.heap l1 l2).objs.size = some _ := Heap.get?_push_of_some _ (Heap.get?_push_of_some _ (Heap.get?_push_of_some _ (Heap.get?_push_size _ rfl)))
  have g2 : (H6 s.heap l1 l2 l3).get? (H1 s.heap l1).objs.size = some _ := Heap.get?_push_of_some _ (Heap.get?_push_of_some _ (Heap.get?_push_of_some _ (Heap.get?_push_of_some _ (Heap.get?_push_size _ rfl))))
  have g1 : (H6 s.heap l1 l2 l3).get? s.heap.objs.size = some _ := Heap.get?_push_of_some _ (Heap.get?_push_of_some _ (Heap.get?_push_of_some _ (Heap.get?_push_of_some _ (Heap.get?_push_of_some _ (Heap.get?_push_size _ rfl)))))
  have keep : ∀ c o, s.heap.get? c = some o → (H6 s.heap l1 l2 l3).get? c = some o := fun c o x => Heap.get?_push_of_some _ (Heap.get?_push_of_some _ (Heap.get?_push_of_some _ (Heap.get?_push_of_some _ (Heap.get?_push_of_some _ (Heap.get?_push_of_some _ x)))))
  show _ ∧ _
  rw [z3, z4, z5] at g6
  rw [z1, z2, z3] at g4
  rw [z4] at g5
  rw [z2] at g3
  rw [z1] at g2
  rw [z5]
  have lt : ∀ {l : Addr} {vs : Array Value}, s.heap.IsList l vs → l < s.heap.objs.size := fun hl => by
    obtain ⟨_, e, _⟩ := hl
    exact Heap.lt_size e
  exact ⟨⟨_, g6, rfl⟩, h _ ⟨g6, g4, g5, ⟨_, g1, rfl, rfl⟩, ⟨_, g2, rfl, rfl⟩, ⟨_, g3, rfl, rfl⟩, hl1.at fun o e => keep _ o e, hl2.at fun o e => keep _ o e, hl3.at fun o e => keep _ o e, lt hl1, lt hl2, lt hl3⟩ z6 keep⟩
end
section
variable {prog : Program} {w : World} {A : Around} {E : Value → Shared → Prop} {s : Shared} {n l1 l2 l3 : Nat} {i : Nat} {xs ys zs : Array Value} {x y u a b c f1 : Value}
theorem upd3 {T : Nat} {k : Nat} {v : Value} {Q : Unit → Shared → Prop} (hT : s.heap.get? T = some (tupO #[a, b, c]))
    (h : ∀ h', h'.get? T = some (tupO ((#[a, b, c] : Array Value).setIfInBounds k v)) → Heap.SameBut T s.heap h' → Q () { s with heap := h' }) :
    wpAny (model prog w) A (updateSeq T (·.setIfInBounds k v)) Q E s := by
  refine wpAny_updateSeq hT rfl (h _ ?_ (Heap.SameBut.update ..))
  rw [Heap.get?_update_self _ hT rfl]
  simp [Obj.mapSeq]
/-- the first one: the zip's own tuple is not out -/
theorem next_first {Q : Value → Shared → Prop} (S : S3 s.heap n l1 l2 l3 .none f1 i i i xs ys zs a b c) (hx : xs[i]? = some x) (hy : ys[i]? = some y) (hu : zs[i]? = some u)
    (hQ : ∀ h', S3 h' n l1 l2 l3 (rawInt s.heap.objs.size) (.bool false) (i + 1) (i + 1) (i + 1) xs ys zs x y u → h'.get? s.heap.objs.size = some (tupO #[x, y, u]) → h'.objs.size = s.heap.objs.size + 1 →
      (∀ (c : Nat) o, c < n ∨ n + 5 < c → s.heap.get? c = some o → h'.get? c = some o) → Q (.ref s.heap.objs.size) { s with heap := h' }) :
    wpAny (model prog w) A (Builtin.«zip.__next__» ⟨[.ref (n + 5)], []⟩) (fun fin s' => ∃ v, fin = .done (.ret v) ∧ Q v s') E s := by
  show wpAny _ _ (field (.ref (n + 5)) 2 >>= _) _ _ _
  refine wpAny_bind (wpAny_field S.z rfl (x := .bool false) rfl ?_)
  show wpAny _ _ (field (.ref (n + 5)) 3 >>= _) _ _ _
  refine wpAny_bind (wpAny_field S.z rfl (x := .ref (n + 3)) rfl ?_)
  refine wpAny_bind (wpAny_seqItems S.ti rfl ?_)
  show wpAny _ _ (Builtin.SmallTypes.ownedTupleIsFree (.ref (n + 5)) >>= _) _ _ _
  refine wpAny_bind ?_
  unfold Builtin.SmallTypes.ownedTupleIsFree
  refine wpAny_bind (wpAny_field S.z rfl (x := .none) rfl (wpAny_pure ?_))
  simp only [if_true]
  refine wpAny_bind (wpAny_rule ?_)
  refine wpAny_bind (wpAny_field S.z rfl (x := .ref (n + 4)) rfl ?_)
  refine wpAny_bind (wpAny_setField_rec S.z (by simp) fun h₁ hz₁ hs₁ => ?_)
  have S₁ : S3 h₁ n l1 l2 l3 .ellipsis f1 i i i xs ys zs a b c := S.setZ (fun b o hb e => hs₁.extBut b o hb e) hz₁
  refine wpAny_bind ?_
  simp only [List.zipIdx_cons, List.zipIdx_nil, List.forIn_cons, List.forIn_nil]
  refine wpAny_bind (wpAny_bind (wpAny_onRaise ?_))
  show wpAny _ _ (Builtin.SmallTypes.nextOf (.ref n) >>= _) _ _ _
  refine wpAny_bind (wpAny_nextOf_list_item S₁.i1 S₁.p1 hx fun h₂ h1₂ hs₂ => wpAny_pure ?_)
  have S₂ := S₁.set1 (fun b o hb e => hs₂.extBut b o hb e) h1₂
  refine wpAny_bind (wpAny_seqItems S₂.to rfl ?_)
  refine wpAny_bind (upd3 S₂.to fun h₃ hTO₃ hs₃ => ?_)
  have S₃ : S3 h₃ n l1 l2 l3 .ellipsis f1 (i + 1) i i xs ys zs x b c := S₂.setO (fun b o hb e => hs₃.extBut b o hb e) hTO₃
  refine wpAny_bind (wpAny_letGo (wpAny_pure ?_))
  refine wpAny_bind (wpAny_bind (wpAny_onRaise ?_))
  show wpAny _ _ (Builtin.SmallTypes.nextOf (.ref (n + 1)) >>= _) _ _ _
  refine wpAny_bind (wpAny_nextOf_list_item S₃.i2 S₃.p2 hy fun h₄ h2₄ hs₄ => wpAny_pure ?_)
  have S₄ := S₃.set2 (fun b o hb e => hs₄.extBut b o hb e) h2₄
  refine wpAny_bind (wpAny_seqItems S₄.to rfl ?_)
  refine wpAny_bind (upd3 S₄.to fun h₅ hTO₅ hs₅ => ?_)
  have S₅ : S3 h₅ n l1 l2 l3 .ellipsis f1 (i + 1) (i + 1) i xs ys zs x y c := S₄.setO (fun b o hb e => hs₅.extBut b o hb e) hTO₅
  refine wpAny_bind (wpAny_letGo (wpAny_pure ?_))
  refine wpAny_bind (wpAny_bind (wpAny_onRaise ?_))
  show wpAny _ _ (Builtin.SmallTypes.nextOf (.ref (n + 2)) >>= _) _ _ _
  refine wpAny_bind (wpAny_nextOf_list_item S₅.i3 S₅.p3 hu fun h₆ h3₆ hs₆ => wpAny_pure ?_)
  have S₆ := S₅.set3 (fun b o hb e => hs₆.extBut b o hb e) h3₆
  refine wpAny_bind (wpAny_seqItems S₆.to rfl ?_)
  refine wpAny_bind (upd3 S₆.to fun h₇ hTO₇ hs₇ => ?_)
  have S₇ : S3 h₇ n l1 l2 l3 .ellipsis f1 (i + 1) (i + 1) (i + 1) xs ys zs x y u := S₆.setO (fun b o hb e => hs₇.extBut b o hb e) hTO₇
  refine wpAny_bind (wpAny_letGo (wpAny_pure (wpAny_pure ?_)))
  refine wpAny_bind (wpAny_seqItems S₇.to rfl ?_)
  refine wpAny_bind (wpAny_newTuple ?_)
  have hsz : h₇.objs.size = s.heap.objs.size := by rw [hs₇.1, hs₆.1, hs₅.1, hs₄.1, hs₃.1, hs₂.1, hs₁.1]
  have hk₇ : ∀ (c : Nat) o, c < n ∨ n + 5 < c → s.heap.get? c = some o → h₇.get? c = some o := fun c o hc e => by
    have d0 : c ≠ n := by omega
    have d1 : c ≠ n + 1 := by omega
    have d2 : c ≠ n + 2 := by omega
    have d4 : c ≠ n + 4 := by omega
    have d5 : c ≠ n + 5 := by omega
    exact hs₇.extBut _ _ d4 (hs₆.extBut _ _ d2 (hs₅.extBut _ _ d4 (hs₄.extBut _ _ d1 (hs₃.extBut _ _ d4 (hs₂.extBut _ _ d0 (hs₁.extBut _ _ d5 e))))))
  have hzlt : n + 5 < h₇.objs.size := Heap.lt_size S₇.z
  show wpAny _ _ (Builtin.SmallTypes.ownedTupleHandOut (.ref (n + 5)) (.ref h₇.objs.size) >>= _) _ _ _
  refine wpAny_bind ?_
  unfold Builtin.SmallTypes.ownedTupleHandOut
  have S₈ : S3 (h₇.push (tupO #[x, y, u])) n l1 l2 l3 .ellipsis f1 (i + 1) (i + 1) (i + 1) xs ys zs x y u := S₇.at fun b o e => Heap.get?_push_of_some _ e
  refine wpAny_bind (wpAny_setField_rec S₈.z (by simp) fun h₉ hz₉ hs₉ => ?_)
  have S₉ : S3 h₉ n l1 l2 l3 (rawInt h₇.objs.size) f1 (i + 1) (i + 1) (i + 1) xs ys zs x y u := S₈.setZ (fun b o hb e => hs₉.extBut b o hb e) hz₉
  refine wpAny_setField_rec S₉.z (by simp) fun hA hzA hsA => ?_
  have SA : S3 hA n l1 l2 l3 (rawInt h₇.objs.size) (.bool false) (i + 1) (i + 1) (i + 1) xs ys zs x y u := S₉.setZ (fun b o hb e => hsA.extBut b o hb e) hzA
  have up : ∀ (c : Nat) o, c ≠ n + 5 → h₇.get? c = some o → hA.get? c = some o := fun c o c1 e => hsA.extBut _ _ c1 (hs₉.extBut _ _ c1 (Heap.get?_push_of_some _ e))
  have hTA : hA.get? h₇.objs.size = some (tupO #[x, y, u]) := hsA.extBut _ _ (Nat.ne_of_gt hzlt) (hs₉.extBut _ _ (Nat.ne_of_gt hzlt) (Heap.get?_push_size _ rfl))
  have hzA' : hA.objs.size = h₇.objs.size + 1 := by rw [hsA.1, hs₉.1, Heap.size_push]
  rw [hsz] at SA hTA hzA'
  refine wpAny_pure ⟨_, rfl, ?_⟩
  show Q (.ref h₇.objs.size) _
  rw [hsz]
  exact hQ hA SA hTA hzA' fun c o hc e => up c o (by omega) (hk₇ c o hc e)
theorem free_out {Q : Bool → Shared → Prop} {p : Nat} {f : Bool} {op : Obj} {k1 k2 k3 : Nat} (S : S3 s.heap n l1 l2 l3 (rawInt p) (.bool f) k1 k2 k3 xs ys zs a b c) (hp : s.heap.get? p = some op)
    (hQ : ∀ h', S3 h' n l1 l2 l3 (rawInt p) (.bool true) k1 k2 k3 xs ys zs a b c → Heap.SameBut (n + 5) s.heap h' → Q false { s with heap := h' }) :
    wpAny (model prog w) A (Builtin.SmallTypes.ownedTupleIsFree (.ref (n + 5))) Q E s := by
  unfold Builtin.SmallTypes.ownedTupleIsFree
  refine wpAny_bind (wpAny_field S.z rfl (x := rawInt p) rfl ?_)
  show wpAny _ _ (loadIfAlive ((p : Int).toNat) >>= _) _ _ _
  rw [Int.toNat_natCast]
  refine wpAny_bind (PySem.W.kdx_alive hp ?_)
  simp only [Option.isNone_some, Bool.false_eq_true, if_false]
  refine wpAny_bind (wpAny_field S.z rfl (x := .bool f) rfl ?_)
  cases f with
  | true =>
    rw [if_neg (show ¬ ((Value.bool true != Value.bool true) = true) from Bool.false_ne_true)]
    exact wpAny_pure (hQ _ S (Heap.SameBut.refl _ _))
  | false =>
    rw [if_pos (show (Value.bool false != Value.bool true) = true from rfl)]
    refine wpAny_bind (wpAny_setField_rec S.z (by simp) fun h₃ he₃ hs₃ => ?_)
    exact wpAny_pure (hQ _ (S.setZ (fun b o hb e => hs₃.extBut b o hb e) he₃) hs₃)
/-- the tuple that was handed out lives: a further one is made -/
theorem next_out {Q : Value → Shared → Prop} {p : Nat} {f : Bool} {op : Obj} (S : S3 s.heap n l1 l2 l3 (rawInt p) (.bool f) i i i xs ys zs a b c) (hp : s.heap.get? p = some op) (hx : xs[i]? = some x) (hy : ys[i]? = some y) (hu : zs[i]? = some u)
    (hQ : ∀ h', S3 h' n l1 l2 l3 (rawInt p) (.bool true) (i + 1) (i + 1) (i + 1) xs ys zs a b c → h'.get? s.heap.objs.size = some (tupO #[x, y, u]) → h'.objs.size = s.heap.objs.size + 1 →
      (∀ (c : Nat) o, c < n ∨ n + 5 < c → s.heap.get? c = some o → h'.get? c = some o) → Q (.ref s.heap.objs.size) { s with heap := h' }) :
    wpAny (model prog w) A (Builtin.«zip.__next__» ⟨[.ref (n + 5)], []⟩) (fun fin s' => ∃ v, fin = .done (.ret v) ∧ Q v s') E s := by
  show wpAny _ _ (field (.ref (n + 5)) 2 >>= _) _ _ _
  refine wpAny_bind (wpAny_field S.z rfl (x := .bool false) rfl ?_)
  show wpAny _ _ (field (.ref (n + 5)) 3 >>= _) _ _ _
  refine wpAny_bind (wpAny_field S.z rfl (x := .ref (n + 3)) rfl ?_)
  refine wpAny_bind (wpAny_seqItems S.ti rfl ?_)
  show wpAny _ _ (Builtin.SmallTypes.ownedTupleIsFree (.ref (n + 5)) >>= _) _ _ _
  refine wpAny_bind (free_out S hp fun h₁ S₁ hs₁ => ?_)
  simp only [Bool.false_eq_true, if_false]
  refine wpAny_bind ?_
  first
  | rw [List.forIn_toArray]
  | (rw [← Array.forIn_toList]; simp only [List.toList_toArray])
  | rw [← Array.forIn_toList]
  simp only [List.forIn_cons, List.forIn_nil]
  refine wpAny_bind (wpAny_bind (wpAny_holding ?_))
  show wpAny _ _ (Builtin.SmallTypes.nextOf (.ref n) >>= _) _ _ _
  refine wpAny_bind (wpAny_nextOf_list_item S₁.i1 S₁.p1 hx fun h₂ h1₂ hs₂ => wpAny_pure (wpAny_pure ?_))
  have S₂ := S₁.set1 (fun b o hb e => hs₂.extBut b o hb e) h1₂
  refine wpAny_bind (wpAny_bind (wpAny_holding ?_))
  show wpAny _ _ (Builtin.SmallTypes.nextOf (.ref (n + 1)) >>= _) _ _ _
  refine wpAny_bind (wpAny_nextOf_list_item S₂.i2 S₂.p2 hy fun h₃ h2₃ hs₃ => wpAny_pure (wpAny_pure ?_))
  have S₃ := S₂.set2 (fun b o hb e => hs₃.extBut b o hb e) h2₃
  refine wpAny_bind (wpAny_bind (wpAny_holding ?_))
  show wpAny _ _ (Builtin.SmallTypes.nextOf (.ref (n + 2)) >>= _) _ _ _
  refine wpAny_bind (wpAny_nextOf_list_item S₃.i3 S₃.p3 hu fun h₄ h3₄ hs₄ => wpAny_pure (wpAny_pure (wpAny_pure ?_)))
  have S₄ := S₃.set3 (fun b o hb e => hs₄.extBut b o hb e) h3₄
  refine wpAny_bind (wpAny_newTuple (hsz := by show 3 ≤ sizeLine; decide) ?_)
  have hsz : h₄.objs.size = s.heap.objs.size := by rw [hs₄.1, hs₃.1, hs₂.1, hs₁.1]
  have hk₄ : ∀ (c : Nat) o, c < n ∨ n + 5 < c → s.heap.get? c = some o → h₄.get? c = some o := fun c o hc e => by
    have d0 : c ≠ n := by omega
    have d1 : c ≠ n + 1 := by omega
    have d2 : c ≠ n + 2 := by omega
    have d5 : c ≠ n + 5 := by omega
    exact hs₄.extBut _ _ d2 (hs₃.extBut _ _ d1 (hs₂.extBut _ _ d0 (hs₁.extBut _ _ d5 e)))
  refine wpAny_pure ⟨_, rfl, ?_⟩
  show Q (.ref h₄.objs.size) _
  have g : (h₄.push (tupO #[x, y, u])).get? h₄.objs.size = some (tupO #[x, y, u]) := Heap.get?_push_size _ rfl
  rw [hsz] at g ⊢
  exact hQ _ (S₄.at fun b o e => Heap.get?_push_of_some _ e) g (by rw [Heap.size_push, hsz]) fun c o hc e => Heap.get?_push_of_some _ (hk₄ c o hc e)
theorem end_first {Q : Fin → Shared → Prop} (hh : A.handled = none) (S : S3 s.heap n l1 l2 l3 .none f1 i i i xs ys zs a b c) (hx : xs[i]? = none)
    (hE : ∀ h' e, (∀ (c : Nat) o, c < n ∨ n + 5 < c → s.heap.get? c = some o → h'.get? c = some o) → (∃ o, h'.get? e = some o ∧ o.cls = .type "StopIteration") → E (.ref e) { s with heap := h' }) :
    wpAny (model prog w) A (Builtin.«zip.__next__» ⟨[.ref (n + 5)], []⟩) Q E s := by
  show wpAny _ _ (field (.ref (n + 5)) 2 >>= _) _ _ _
  refine wpAny_bind (wpAny_field S.z rfl (x := .bool false) rfl ?_)
  show wpAny _ _ (field (.ref (n + 5)) 3 >>= _) _ _ _
  refine wpAny_bind (wpAny_field S.z rfl (x := .ref (n + 3)) rfl ?_)
  refine wpAny_bind (wpAny_seqItems S.ti rfl ?_)
  show wpAny _ _ (Builtin.SmallTypes.ownedTupleIsFree (.ref (n + 5)) >>= _) _ _ _
  refine wpAny_bind ?_
  unfold Builtin.SmallTypes.ownedTupleIsFree
  refine wpAny_bind (wpAny_field S.z rfl (x := .none) rfl (wpAny_pure ?_))
  simp only [if_true]
  refine wpAny_bind (wpAny_rule ?_)
  refine wpAny_bind (wpAny_field S.z rfl (x := .ref (n + 4)) rfl ?_)
  refine wpAny_bind (wpAny_setField_rec S.z (by simp) fun h₁ hz₁ hs₁ => ?_)
  have S₁ : S3 h₁ n l1 l2 l3 .ellipsis f1 i i i xs ys zs a b c := S.setZ (fun b o hb e => hs₁.extBut b o hb e) hz₁
  refine wpAny_bind ?_
  simp only [List.zipIdx_cons, List.zipIdx_nil, List.forIn_cons, List.forIn_nil]
  refine wpAny_bind (wpAny_bind (wpAny_onRaise ?_))
  show wpAny _ _ (Builtin.SmallTypes.nextOf (.ref n) >>= _) _ _ _
  refine wpAny_bind (wpAny_nextOf_list_end hh S₁.i1 S₁.p1 hx fun h₂ e hs₂ he => ?_)
  obtain ⟨oe, hoe, hce⟩ := he
  have n5 : n + 5 ≠ n := by omega
  have hz₂ : h₂.get? (n + 5) = some (zipO .ellipsis f1 (n + 3) (n + 4)) := hs₂ _ _ n5 S₁.z
  have hez : e ≠ n + 5 := fun x => by subst x; rw [hz₂] at hoe; cases hoe; simp at hce
  refine wpAny_setField_rec hz₂ (by simp) fun h₃ _ hs₃ => hE h₃ e (fun c o hc x => ?_) ⟨oe, hs₃.extBut _ _ hez hoe, hce⟩
  have d0 : c ≠ n := by omega
  have d5 : c ≠ n + 5 := by omega
  exact hs₃.extBut _ _ d5 (hs₂ _ _ d0 (hs₁.extBut _ _ d5 x))
theorem end_out {Q : Fin → Shared → Prop} {p : Nat} {f : Bool} {op : Obj} (hh : A.handled = none) (S : S3 s.heap n l1 l2 l3 (rawInt p) (.bool f) i i i xs ys zs a b c) (hp : s.heap.get? p = some op) (hx : xs[i]? = none)
    (hE : ∀ h' e, (∀ (c : Nat) o, c < n ∨ n + 5 < c → s.heap.get? c = some o → h'.get? c = some o) → (∃ o, h'.get? e = some o ∧ o.cls = .type "StopIteration") → E (.ref e) { s with heap := h' }) :
    wpAny (model prog w) A (Builtin.«zip.__next__» ⟨[.ref (n + 5)], []⟩) Q E s := by
  show wpAny _ _ (field (.ref (n + 5)) 2 >>= _) _ _ _
  refine wpAny_bind (wpAny_field S.z rfl (x := .bool false) rfl ?_)
  show wpAny _ _ (field (.ref (n + 5)) 3 >>= _) _ _ _
  refine wpAny_bind (wpAny_field S.z rfl (x := .ref (n + 3)) rfl ?_)
  refine wpAny_bind (wpAny_seqItems S.ti rfl ?_)
  show wpAny _ _ (Builtin.SmallTypes.ownedTupleIsFree (.ref (n + 5)) >>= _) _ _ _
  refine wpAny_bind (free_out S hp fun h₁ S₁ hs₁ => ?_)
  simp only [Bool.false_eq_true, if_false]
  refine wpAny_bind ?_
  first
  | rw [List.forIn_toArray]
  | (rw [← Array.forIn_toList]; simp only [List.toList_toArray])
  | rw [← Array.forIn_toList]
  simp only [List.forIn_cons, List.forIn_nil]
  refine wpAny_bind (wpAny_bind (wpAny_holding ?_))
  show wpAny _ _ (Builtin.SmallTypes.nextOf (.ref n) >>= _) _ _ _
  refine wpAny_bind (wpAny_nextOf_list_end hh S₁.i1 S₁.p1 hx fun h₂ e hs₂ he => ?_)
  refine hE h₂ e (fun c o hc x => ?_) he
  have d0 : c ≠ n := by omega
  have d5 : c ≠ n + 5 := by omega
  exact hs₂ _ _ d0 (hs₁.extBut _ _ d5 x)
/-- how the zip stands while its list (at L) is made -/
def St3 (h : Heap) (n l1 l2 l3 L i : Nat) (xs ys zs : Array Value) : Prop :=
  (i = 0 ∧ ∃ a b c, S3 h n l1 l2 l3 .none (.bool false) 0 0 0 xs ys zs a b c) ∨ ∃ (a b c : Value) (p : Nat) (f : Bool) (op : Obj), S3 h n l1 l2 l3 (rawInt p) (.bool f) i i i xs ys zs a b c ∧ h.get? p = some op ∧ n + 5 < p ∧ p ≠ L
theorem St3.keep {h h' : Heap} {L : Nat} (x : St3 h n l1 l2 l3 L i xs ys zs) (hk : ∀ (b : Nat) o, b ≠ L → h.get? b = some o → h'.get? b = some o) (hL : n + 5 < L) : St3 h' n l1 l2 l3 L i xs ys zs := by
  have go : ∀ {f0 g : Value} {j : Nat} {a b c : Value}, S3 h n l1 l2 l3 f0 g j j j xs ys zs a b c → S3 h' n l1 l2 l3 f0 g j j j xs ys zs a b c := fun S => by
    have q1 := S.lt1
    have q2 := S.lt2
    have q3 := S.lt3
    exact ⟨hk _ _ (by omega) S.z, hk _ _ (by omega) S.ti, hk _ _ (by omega) S.to, S.i1.at fun o e => hk _ o (by omega) e, S.i2.at fun o e => hk _ o (by omega) e, S.i3.at fun o e => hk _ o (by omega) e, S.p1.at fun o e => hk _ o (by omega) e, S.p2.at fun o e => hk _ o (by omega) e, S.p3.at fun o e => hk _ o (by omega) e, S.lt1, S.lt2, S.lt3⟩
  rcases x with ⟨e, a, b, c, S⟩ | ⟨a, b, c, p, f, op, S, hp, hpn, hpL⟩
  · exact .inl ⟨e, a, b, c, go S⟩
  · exact .inr ⟨a, b, c, p, f, op, go S, hk p _ hpL hp, hpn, hpL⟩
theorem pyNext_item {L : Nat} {Q : Option Value → Shared → Prop} (st : St3 s.heap n l1 l2 l3 L i xs ys zs) (hL : L < s.heap.objs.size) (hn : n + 5 < s.heap.objs.size) (hx : xs[i]? = some x) (hy : ys[i]? = some y) (hu : zs[i]? = some u)
    (hQ : ∀ h', St3 h' n l1 l2 l3 L (i + 1) xs ys zs → h'.get? s.heap.objs.size = some (tupO #[x, y, u]) → h'.objs.size = s.heap.objs.size + 1 →
      (∀ (c : Nat) o, c < n ∨ n + 5 < c → s.heap.get? c = some o → h'.get? c = some o) → Q (some (.ref s.heap.objs.size)) { s with heap := h' }) :
    wpAny (model prog w) A (pyNext (.ref (n + 5))) Q E s := by
  rcases st with ⟨rfl, a, b, c, S⟩ | ⟨a, b, c, p, f, op, S, hp, hpn, hpL⟩
  · have hT : s.TypeIs (.ref (n + 5)) "zip" := ⟨_, S.z, rfl⟩
    unfold pyNext
    exact wpAny_bind (wpAny_attempt (wpAny_callSpecial?_slot (name := Str.ofString "__next__") hT PySem.F.slot_zip_next
      (wpAny_call_entry PySem.F.slot_zip_next hT PySem.F.entry_zip_next
        (next_first S hx hy hu fun h' S' g z k => wpAny_pure (hQ h' (.inr ⟨_, _, _, _, _, _, S', g, hn, (Nat.ne_of_lt hL).symm⟩) g z k)) (PySem.F.args_zip_next_1 _))))
  · have hT : s.TypeIs (.ref (n + 5)) "zip" := ⟨_, S.z, rfl⟩
    unfold pyNext
    exact wpAny_bind (wpAny_attempt (wpAny_callSpecial?_slot (name := Str.ofString "__next__") hT PySem.F.slot_zip_next
      (wpAny_call_entry PySem.F.slot_zip_next hT PySem.F.entry_zip_next
        (next_out S hp hx hy hu fun h' S' g z k => wpAny_pure (hQ h' (.inr ⟨_, _, _, p, true, op, S', k p _ (.inr hpn) hp, hpn, hpL⟩) g z k)) (PySem.F.args_zip_next_1 _))))
theorem pyNext_end {L : Nat} {Q : Option Value → Shared → Prop} (hh : A.handled = none) (st : St3 s.heap n l1 l2 l3 L i xs ys zs) (hx : xs[i]? = none)
    (hQ : ∀ h', (∀ (c : Nat) o, c < n ∨ n + 5 < c → s.heap.get? c = some o → h'.get? c = some o) → Q none { s with heap := h' }) :
    wpAny (model prog w) A (pyNext (.ref (n + 5))) Q E s := by
  rcases st with ⟨rfl, a, b, c, S⟩ | ⟨a, b, c, p, f, op, S, hp, hpn, hpL⟩
  · have hT : s.TypeIs (.ref (n + 5)) "zip" := ⟨_, S.z, rfl⟩
    unfold pyNext
    refine wpAny_bind (wpAny_attempt (wpAny_callSpecial?_slot (name := Str.ofString "__next__") hT PySem.F.slot_zip_next
      (wpAny_call_entry PySem.F.slot_zip_next hT PySem.F.entry_zip_next (end_first hh S hx fun h' e hk he => ?_) (PySem.F.args_zip_next_1 _))))
    obtain ⟨o, ho, hc⟩ := he
    refine wpAny_bind (wpAny_isInstance (T := "StopIteration") (b := true) ⟨o, ho, hc⟩ isSubtype_stop ?_)
    exact wpAny_pure (hQ _ hk)
  · have hT : s.TypeIs (.ref (n + 5)) "zip" := ⟨_, S.z, rfl⟩
    unfold pyNext
    refine wpAny_bind (wpAny_attempt (wpAny_callSpecial?_slot (name := Str.ofString "__next__") hT PySem.F.slot_zip_next
      (wpAny_call_entry PySem.F.slot_zip_next hT PySem.F.entry_zip_next (end_out hh S hp hx fun h' e hk he => ?_) (PySem.F.args_zip_next_1 _))))
    obtain ⟨o, ho, hc⟩ := he
    refine wpAny_bind (wpAny_isInstance (T := "StopIteration") (b := true) ⟨o, ho, hc⟩ isSubtype_stop ?_)
    exact wpAny_pure (hQ _ hk)
end
structure Z3G (xs ys zs : Array Value) (lo : Nat) (h : Heap) (as : List Addr) : Prop where
  rise : as.Pairwise (· < ·)
  above : ∀ a ∈ as, lo < a
  trip : ∀ (j : Nat) (a : Addr), as[j]? = some a → ∃ x y u, xs[j]? = some x ∧ ys[j]? = some y ∧ zs[j]? = some u ∧ h.get? a = some (tupO #[x, y, u])
theorem Z3G.there {xs ys zs : Array Value} {lo : Nat} {h : Heap} {as : List Addr} (g : Z3G xs ys zs lo h as) {a : Addr} (ha : a ∈ as) : a < h.objs.size := by
  obtain ⟨j, hj⟩ := List.mem_iff_getElem?.mp ha
  obtain ⟨_, _, _, _, _, _, e⟩ := g.trip j a hj
  exact Heap.lt_size e
theorem nolen_zip : typeLookup (.type "zip") "__len__" = pure none := by rw [typeLookup_type, builtinLookup_eq_fast]; kernel_rfl
theorem nohint_zip : typeLookup (.type "zip") "__length_hint__" = pure none := by rw [typeLookup_type, builtinLookup_eq_fast]; kernel_rfl
section
variable {prog : Program} {w : World} {A : Around} {s : Shared} {R : Result → Shared → Prop} {n l1 l2 l3 : Nat} {xs ys zs : Array Value}
theorem z3_loop {L : Nat} (hh : A.handled = none) (hL : n + 5 < L) (hn : xs.size ≤ sizeLine) (e2 : ys.size = xs.size) (e3 : zs.size = xs.size) (res : Value) {h₁ : Heap}
    (hR : ∀ h' tk acc c as, (∀ (b : Nat) o, b ≠ L → (b < n ∨ n + 5 < b) → h₁.get? b = some o → h'.get? b = some o) → h'.get? L = some { cls := .type "list", dict := none, data := .seq acc c, slots := #[] } → as.length = xs.size → Z3G xs ys zs L h' as →
      acc.toList = as.map Value.ref → R (.ok (.ret res)) { s with heap := h', toks := tk }) :
    ∀ (k i : Nat) (h : Heap) (tk c : Nat) (acc : Array Value) (as : List Addr), xs.size - i = k → i ≤ xs.size → St3 h n l1 l2 l3 L i xs ys zs → (∀ (b : Nat) o, b ≠ L → (b < n ∨ n + 5 < b) → h₁.get? b = some o → h.get? b = some o) →
      h.get? L = some { cls := .type "list", dict := none, data := .seq acc c, slots := #[] } → acc.toList = as.map Value.ref → as.length = i → Z3G xs ys zs L h as →
      codeAny (model prog w) A (.builtin "list.extend.loop" ⟨[.ref L, .ref (n + 5), res], []⟩) R { s with heap := h, toks := tk } := by
  intro k
  induction k with
  | zero =>
    intro i h tk c acc as hk hi hst hkeep hS hacc hal hG
    refine codeAny_builtin PySem.F.entry_extend_loop ?_
    rw [Around.under_plainId PySem.F.plain_extend_loop _]
    show wpAny _ A.in1 (pyNext (.ref (n + 5)) >>= _) _ _ _
    refine wpAny_bind (pyNext_end (s := { s with heap := h, toks := tk }) (A := A.in1) hh hst (Array.getElem?_eq_none (by omega)) fun h' he => ?_)
    refine wpAny_pure (hR h' tk acc c as (fun b o h1 h2 e => he b o h2 (hkeep b o h1 h2 e)) (he L _ (.inr hL) hS) (by omega) ⟨hG.rise, hG.above, fun j a hj => ?_⟩ hacc)
    obtain ⟨x, y, u, q1, q2, q3, q4⟩ := hG.trip j a hj
    have hla := hG.above a (List.mem_of_getElem? hj)
    exact ⟨x, y, u, q1, q2, q3, he a _ (.inr (Nat.lt_trans hL hla)) q4⟩
  | succ k ih =>
    intro i h tk c acc as hk hi hst hkeep hS hacc hal hG
    have hlt : i < xs.size := by omega
    have hx : xs[i]? = some xs[i] := Array.getElem?_eq_getElem hlt
    have hy : ys[i]? = some (ys[i]'(by omega)) := Array.getElem?_eq_getElem (by omega)
    have hu : zs[i]? = some (zs[i]'(by omega)) := Array.getElem?_eq_getElem (by omega)
    have hsz : acc.size = i := by rw [← Array.length_toList, hacc, List.length_map, hal]
    have hLl : L < h.objs.size := Heap.lt_size hS
    refine codeAny_builtin PySem.F.entry_extend_loop ?_
    rw [Around.under_plainId PySem.F.plain_extend_loop _]
    show wpAny _ A.in1 (pyNext (.ref (n + 5)) >>= _) _ _ _
    refine wpAny_bind (pyNext_item (s := { s with heap := h, toks := tk }) (L := L) hst hLl (Nat.lt_trans hL hLl) hx hy hu fun h' hst' ht hz hkp => ?_)
    dsimp only at ht hz hkp ⊢
    have hS' := hkp L _ (.inr hL) hS
    have up : ∀ (b : Nat) o, b ≠ L → h'.get? b = some o → (h'.update L (Obj.mapSeq (·.push (Value.ref h.objs.size)))).get? b = some o := fun b o hb e => (Heap.get?_update_other _ _ (Ne.symm hb)).trans e
    show wpAny _ A.in1 (updateSeq L (·.push (Value.ref h.objs.size)) >>= _) _ _ _
    refine wpAny_bind ?_
    refine wpAny_updateSeq hS' rfl (wpAny_pure ⟨plainId_quiet PySem.F.plain_extend_loop _, ih (i + 1) _ tk _ (acc.push (Value.ref h.objs.size)) (as ++ [h.objs.size]) (by omega) hlt (hst'.keep up hL)
      (fun b o h1 h2 e => up b o h1 (hkp b o h2 (hkeep b o h1 h2 e))) (Heap.get?_update_self _ hS' rfl) (by rw [Array.toList_push, hacc, List.map_append]; rfl) (by rw [List.length_append, hal]; rfl) ⟨?_, ?_, ?_⟩⟩) (by rw [hsz]; omega) (by show (acc.push (Value.ref h.objs.size)).size ≤ sizeLine + 1; rw [Array.size_push, hsz]; omega)
    · refine List.pairwise_append.mpr ⟨hG.rise, List.pairwise_singleton _ _, fun a ha b hb => ?_⟩
      rw [List.mem_singleton.mp hb]
      exact hG.there ha
    · intro a ha
      rcases List.mem_append.mp ha with ha | ha
      · exact hG.above a ha
      · rw [List.mem_singleton.mp ha]; exact hLl
    · intro j b hj
      rcases Nat.lt_trichotomy j as.length with h1 | h1 | h1
      · rw [List.getElem?_append_left h1] at hj
        obtain ⟨x', y', u', q1, q2, q3, q4⟩ := hG.trip j b hj
        have hb := hG.above b (List.mem_of_getElem? hj)
        exact ⟨x', y', u', q1, q2, q3, up b _ (Nat.ne_of_gt hb) (hkp b _ (.inr (Nat.lt_trans hL hb)) q4)⟩
      · subst h1
        have hb : h.objs.size = b := by simpa using hj
        subst hb
        exact ⟨_, _, _, by rw [hal]; exact hx, by rw [hal]; exact hy, by rw [hal]; exact hu, up _ _ (Nat.ne_of_gt hLl) ht⟩
      · have hnone : (as ++ [h.objs.size])[j]? = none := List.getElem?_eq_none (by rw [List.length_append, List.length_singleton]; omega)
        rw [hnone] at hj; cases hj
theorem z3_extend (hh : A.handled = none) {L : Nat} (st : S3 s.heap n l1 l2 l3 .none (.bool false) 0 0 0 xs ys zs .none .none .none) (hL : n + 5 < L) (hn : xs.size ≤ sizeLine) (e2 : ys.size = xs.size) (e3 : zs.size = xs.size) (res : Value) (c₀ : Nat) (hS : s.heap.get? L = some { cls := .type "list", data := .seq #[] c₀ })
    (hR : ∀ h' tk acc c as, (∀ (b : Nat) o, b ≠ L → (b < n ∨ n + 5 < b) → s.heap.get? b = some o → h'.get? b = some o) → h'.get? L = some { cls := .type "list", dict := none, data := .seq acc c, slots := #[] } → as.length = xs.size → Z3G xs ys zs L h' as →
      acc.toList = as.map Value.ref → R (.ok (.ret res)) { s with heap := h', toks := tk }) :
    wpAny (model prog w) A.in1 (Builtin.List.listExtendWith (.ref L) (.ref (n + 5)) res)
      (fun fin s' => match fin with | .done f => R (.ok f) s' | .again c' => c'.quiet = true ∧ codeAny (model prog w) A c' R s') (fun e s' => R (.error e) s') s := by
  have hT : s.TypeIs (.ref (n + 5)) "zip" := ⟨_, st.z, rfl⟩
  have hLz : L ≠ n + 5 := by omega
  have key : ∀ (h : Heap) (c₁ tk : Nat), (∀ (b : Nat) o, b ≠ L → s.heap.get? b = some o → h.get? b = some o) → h.get? L = some { cls := .type "list", data := .seq #[] c₁ } →
      codeAny (model prog w) A (.builtin "list.extend.loop" ⟨[.ref L, .ref (n + 5), res], []⟩) R { s with heap := h, toks := tk } := fun h c₁ tk hk hS₁ =>
    z3_loop (s := s) (h₁ := s.heap) hh hL hn e2 e3 res hR xs.size 0 h tk c₁ #[] [] (Nat.sub_zero _) (Nat.zero_le _) ((St3.keep (L := L) (.inl ⟨rfl, _, _, _, st⟩) hk hL)) (fun b o hb _ e => hk b o hb e) hS₁ rfl rfl
      ⟨List.Pairwise.nil, (fun _ ha => nomatch ha), (fun j a hj => by simp at hj)⟩
  unfold Builtin.List.listExtendWith
  refine wpAny_bind (wpAny_typeOf hT ?_)
  have h1 : Builtin.List.listSameRef (.ref L) (.ref (n + 5)) = false := by simp [Builtin.List.listSameRef, hLz]
  have h2 : (Value.type "zip" == Value.type "list") = false := by decide
  have h3 : (Value.type "zip" == Value.type "tuple") = false := by decide
  simp only [h1, h2, h3, Bool.or_false, Bool.false_eq_true, if_false]
  refine wpAny_bind (wpAny_pyIter_zip st.z ?_)
  refine wpAny_bind (wpAny_holding ?_)
  unfold Builtin.List.listLengthHint
  refine wpAny_bind (wpAny_specialOf hT nolen_zip ?_)
  show wpAny _ A.in1 (specialOf (Value.ref (n + 5)) (Str.ofString "__length_hint__") >>= _) _ _ _
  refine wpAny_bind (wpAny_specialOf hT nohint_zip ?_)
  refine wpAny_pure ?_
  show wpAny _ A.in1 (rule "list.extend.makes-room" >>= fun _ => Builtin.List.listTouch (.ref L) >>= fun _ =>
    again (.builtin "list.extend.loop" ⟨[.ref L, .ref (n + 5), res], []⟩)) _ _ _
  refine wpAny_bind (wpAny_rule ?_)
  refine wpAny_bind ?_
  show wpAny _ A.in1 (updateSeq L (·.push .none) >>= fun _ => updateSeq L (·.pop)) _ _ _
  refine wpAny_bind (wpAny_updateSeq hS rfl ?_)
  have hS₂ := Heap.get?_update_self (Obj.mapSeq (·.push Value.none)) hS rfl
  refine wpAny_updateSeq (hz := by seq_fits) hS₂ rfl ?_
  have hS₃ := Heap.get?_update_self (Obj.mapSeq (·.pop)) hS₂ rfl
  refine wpAny_pure ⟨plainId_quiet PySem.F.plain_extend_loop _, key _ _ _ (fun b o hb e => ?_) hS₃⟩
  exact (Heap.get?_update_other _ _ (Ne.symm hb)).trans ((Heap.get?_update_other _ _ (Ne.symm hb)).trans e)
theorem z3_init (hh : A.handled = none) {L : Nat} (st : S3 s.heap n l1 l2 l3 .none (.bool false) 0 0 0 xs ys zs .none .none .none) (hL : n + 5 < L) (hn : xs.size ≤ sizeLine) (e2 : ys.size = xs.size) (e3 : zs.size = xs.size) (hS : s.heap.get? L = some { cls := .type "list", data := .seq #[] })
    (hR : ∀ h' tk acc c as, (∀ (b : Nat) o, b ≠ L → (b < n ∨ n + 5 < b) → s.heap.get? b = some o → h'.get? b = some o) → h'.get? L = some { cls := .type "list", dict := none, data := .seq acc c, slots := #[] } → as.length = xs.size → Z3G xs ys zs L h' as →
      acc.toList = as.map Value.ref → R (.ok (.ret .none)) { s with heap := h', toks := tk }) :
    wpAny (model prog w) A.in1 (Builtin.«list.__init__» ⟨[.ref L, .ref (n + 5)], []⟩)
      (fun fin s' => match fin with | .done f => R (.ok f) s' | .again c' => c'.quiet = true ∧ codeAny (model prog w) A c' R s') (fun e s' => R (.error e) s') s := by
  show wpAny _ _ (do let old ← Builtin.List.listItems (.ref L); Builtin.List.listUpdate (.ref L) (fun _ => #[]); letGo old.toList.reverse; Builtin.List.listExtendWith (.ref L) (.ref (n + 5)) .none) _ _ s
  refine wpAny_bind ?_
  unfold Builtin.List.listItems
  refine wpAny_bind (wpAny_seqItems hS rfl (wpAny_pure ?_))
  show wpAny _ _ (updateSeq L (fun _ => #[]) >>= fun _ => letGo (#[] : Array Value).toList.reverse >>= fun _ => Builtin.List.listExtendWith (.ref L) (.ref (n + 5)) .none) _ _ s
  refine wpAny_bind (wpAny_updateSeq hS rfl ?_)
  have hS₂ := Heap.get?_update_self (Obj.mapSeq (fun _ => (#[] : Array Value))) hS rfl
  have oth : ∀ (b : Nat) o, b ≠ L → s.heap.get? b = some o → (s.heap.update L (Obj.mapSeq (fun _ => (#[] : Array Value)))).get? b = some o :=
    fun b o hb e => (Heap.get?_update_other _ _ (Ne.symm hb)).trans e
  refine wpAny_bind (wpAny_letGo ?_)
  have st2 : S3 (s.heap.update L (Obj.mapSeq (fun _ => (#[] : Array Value)))) n l1 l2 l3 .none (.bool false) 0 0 0 xs ys zs .none .none .none := by
    have q1 := st.lt1
    have q2 := st.lt2
    have q3 := st.lt3
    exact ⟨oth _ _ (by omega) st.z, oth _ _ (by omega) st.ti, oth _ _ (by omega) st.to, st.i1.at fun o e => oth _ o (by omega) e, st.i2.at fun o e => oth _ o (by omega) e, st.i3.at fun o e => oth _ o (by omega) e, st.p1.at fun o e => oth _ o (by omega) e, st.p2.at fun o e => oth _ o (by omega) e, st.p3.at fun o e => oth _ o (by omega) e, st.lt1, st.lt2, st.lt3⟩
  exact z3_extend hh st2 hL hn e2 e3 .none _ hS₂ (fun h' tk acc c as hk hS' hl hG hacc => hR h' tk acc c as (fun b o hb hb2 e => hk b o hb hb2 (oth b o hb e)) hS' hl hG hacc)
end
section
variable {prog : Program} {w : World} {A : Around} {E : Value → Shared → Prop} {s : Shared} {n l1 l2 l3 : Nat} {xs ys zs : Array Value}
theorem z3_call {Q : Value → Shared → Prop} (hh : A.handled = none) (st : S3 s.heap n l1 l2 l3 .none (.bool false) 0 0 0 xs ys zs .none .none .none) (hn : xs.size ≤ sizeLine) (e2 : ys.size = xs.size) (e3 : zs.size = xs.size)
    (hQ : ∀ h' tk acc c as, (∀ (b : Nat) o, (b < n ∨ n + 5 < b) → s.heap.get? b = some o → h'.get? b = some o) → h'.get? s.heap.objs.size = some { cls := .type "list", dict := none, data := .seq acc c, slots := #[] } → as.length = xs.size → Z3G xs ys zs s.heap.objs.size h' as →
      acc.toList = as.map Value.ref → Q (.ref s.heap.objs.size) { s with heap := h', toks := tk }) :
    wpAny (model prog w) A (call (.type "list") [.ref (n + 5)]) Q E s := by
  refine callType_codes (Q₁ := fun obj s₁ => obj = .ref s.heap.objs.size ∧ s₁ = { s with heap := s.heap.push { cls := .type "list", data := .seq #[] } }) PySem.F.called_list (PySem.F.typeCall_list_1 _) PySem.F.entry_list_init
    (code_list_new _ ⟨rfl, rfl⟩) fun obj s₁ h₁ => ?_
  obtain ⟨rfl, rfl⟩ := h₁
  have hS : (s.heap.push { cls := .type "list", data := .seq #[] }).get? s.heap.objs.size = some { cls := .type "list", data := .seq #[] } := Heap.get?_push_size _ rfl
  have hz : n + 5 < s.heap.objs.size := Heap.lt_size st.z
  refine ⟨⟨_, hS, rfl⟩, PySem.F.args_list_init_2 _ _, z3_init (A := A.in1) hh (st.at fun b o e => Heap.get?_push_of_some _ e) hz hn e2 e3 hS (fun h' tk acc c as hk hS' hl hG hacc => ?_)⟩
  exact ⟨rfl, hQ h' tk acc c as (fun b o hb e => hk b o (Nat.ne_of_lt (Heap.lt_size e)) hb (Heap.get?_push_of_some _ e)) hS' hl hG hacc⟩
end
end Z3

set_option maxRecDepth 100000
set_option maxHeartbeats 2000000
/-! OIu8: list(zip(a, b, c)). -/
namespace Z3
open PySem PySem.Spec PyProof.Rows L2
abbrev Tri := V × V × V
def triV (p : Tri) : List V := [p.1, p.2.1, p.2.2]
/-- the tuples tracked at their addresses -/
def putZ : Hp → List Addr → List Tri → Hp
  | H, a :: as, p :: ps => putZ (upd H a (.tup (triV p))) as ps
  | H, _, _ => H
theorem putZ_off {b : Addr} : ∀ (as : List Addr) (ps : List Tri) (H : Hp), b ∉ as → putZ H as ps b = H b
  | [], _, _, _ => rfl
  | _ :: _, [], _, _ => rfl
  | a :: as, p :: ps, H, h => by
    show putZ (upd H a (.tup (triV p))) as ps b = H b
    rw [putZ_off as ps _ (fun z => h (List.mem_cons_of_mem _ z)), upd_ne (fun z => h (by rw [z]; exact List.mem_cons_self))]
theorem putZ_at : ∀ (as : List Addr) (ps : List Tri) (H : Hp), as.length = ps.length → as.Nodup → ∀ (j : Nat) (a : Addr), as[j]? = some a → ∃ p, ps[j]? = some p ∧ putZ H as ps a = some (.tup (triV p))
  | [], [], _, _, _, j, a, h => by simp at h
  | [], _ :: _, _, h, _, _, _, _ => by cases h
  | _ :: _, [], _, h, _, _, _, _ => by cases h
  | a :: as, p :: ps, H, h, hn, j, b, hj => by
    have hn' := List.nodup_cons.mp hn
    cases j with
    | zero =>
      have e : a = b := by simpa using hj
      subst e
      refine ⟨p, rfl, ?_⟩
      show putZ (upd H a (.tup (triV p))) as ps a = _
      rw [putZ_off as ps _ hn'.1, upd_same]
    | succ j =>
      exact putZ_at as ps (upd H a (.tup (triV p))) (Nat.succ.inj h) hn'.2 j b (by simpa using hj)
def zip3 (xs ys zs : List V) : List Tri := xs.zip (ys.zip zs)
theorem zip3_get {xs ys zs : List V} {j : Nat} {x y z : V} (h1 : xs[j]? = some x) (h2 : ys[j]? = some y) (h3 : zs[j]? = some z) : (zip3 xs ys zs)[j]? = some (x, y, z) := by
  unfold zip3
  rw [List.getElem?_zip_eq_some]
  exact ⟨h1, List.getElem?_zip_eq_some.mpr ⟨h2, h3⟩⟩
def rZ3 (K : PySem.W.Frag) : List V → Hp → VK → Prop := fun vs H Q => ∃ (a b c : Addr) (xs ys zs : List V), vs = [.ref a, .ref b, .ref c] ∧ SqL K H a xs ∧ SqL K H b ys ∧ SqL K H c zs ∧ ys.length = xs.length ∧ zs.length = xs.length ∧
  ∀ (p : Addr) (ts : List Addr), ts.length = xs.length → ts.Nodup → H p = none → (∀ t ∈ ts, H t = none) → p ∉ ts → Q (.ref p) (upd (putZ H ts (zip3 xs ys zs)) p (.lst (ts.map V.ref)))
section
variable {X : Cx} {e e2 e3 : Expr} {ta : TA} {p p2 pos pos2 : Pos}
theorem laid3 {pins : List (Addr × Obj)} {σ : L2.St} {H : Hp} {s : Shared} {h' : Heap} {tk : Nat} {xs ys zs : List V} {us vs ws : List Value} {acc : Array Value} {c : Nat} {L : Nat} {as : List Addr} (I : Inv X pins σ H s) (hz : xs.length ≤ sizeLine) (r1 : Vals xs us) (r2 : Vals ys vs) (r3 : Vals zs ws) (l2 : ys.length = xs.length) (l3 : zs.length = xs.length)
    (hk : ∀ b o, s.heap.get? b = some o → h'.get? b = some o) (hL : s.heap.objs.size ≤ L) (hS : h'.get? L = some { cls := .type "list", dict := none, data := .seq acc c, slots := #[] }) (hl : as.length = xs.length) (hG : Z3G us.toArray vs.toArray ws.toArray L h' as) (hacc : acc.toList = as.map Value.ref) :
    as.Nodup ∧ H L = none ∧ (∀ t ∈ as, H t = none) ∧ L ∉ as ∧ Inv X pins σ (upd (putZ H as (zip3 xs ys zs)) L (.lst (as.map V.ref))) { s with heap := h', toks := tk } := by
  have hSn : L ∉ as := fun z => Nat.lt_irrefl _ (hG.above _ z)
  have nd : as.Nodup := List.Pairwise.imp (fun {a b} (h : a < b) => Nat.ne_of_lt h) hG.rise
  have new : ∀ t ∈ as, H t = none := fun t ht => I.hok.fresh (Nat.le_trans hL (Nat.le_of_lt (hG.above t ht)))
  have newS : H L = none := I.hok.fresh hL
  have lz : as.length = (zip3 xs ys zs).length := by unfold zip3; rw [List.length_zip, List.length_zip]; omega
  have atP := putZ_at as (zip3 xs ys zs) H lz nd
  have off : ∀ b, b ∉ as → b ≠ L → upd (putZ H as (zip3 xs ys zs)) L (.lst (as.map V.ref)) b = H b := fun b h1 h2 => by rw [upd_ne h2, putZ_off as _ _ h1]
  have low : ∀ b o, s.heap.get? b = some o → b ∉ as ∧ b ≠ L := fun b o e => ⟨fun z => absurd (Heap.lt_size e) (Nat.not_lt.mpr (Nat.le_trans hL (Nat.le_of_lt (hG.above b z)))), fun z => absurd (Heap.lt_size e) (Nat.not_lt.mpr (by rw [z]; exact hL))⟩
  have kp : ∀ b u, H b = some u → (upd (putZ H as (zip3 xs ys zs)) L (.lst (as.map V.ref))) b = some u := fun b u e => by
    rw [off b (fun z => by rw [new b z] at e; cases e) (fun z => by rw [z, newS] at e; cases e)]
    exact e
  refine ⟨nd, newS, new, hSn, ?_⟩
  refine I.call' (ch := []) rfl ⟨fun b o q _ _ _ => hk b o q, fun b o q _ _ _ => ⟨o.slots, hk b o q⟩, fun b o q n _ => ?_, fun b o q _ => ⟨o, hk b o q⟩, fun b xs q => kp b _ q, fun b o u q => kp b _ q, fun b ps q => ⟨#[], by rw [kp b _ q]; simp⟩⟩ (fun b u q => ?_) I.bare fun b z => by simp at z
  · obtain ⟨z1, z2⟩ := low b o q
    rw [off b z1 z2]
    exact n
  · by_cases hb2 : b = L
    · subst hb2
      rw [upd_same] at q
      cases q
      refine ⟨by rw [List.length_map]; omega, acc.toList, c, by rw [hacc]; exact LiI.vals_refs as, ?_⟩
      rw [Array.toArray_toList]
      exact hS
    · by_cases hb : b ∈ as
      · rw [upd_ne hb2] at q
        obtain ⟨j, e1⟩ := List.mem_iff_getElem?.mp hb
        obtain ⟨pk, f1, f2⟩ := atP j b e1
        rw [f2] at q
        cases q
        obtain ⟨x, y, u, g1, g2, g3, g4⟩ := hG.trip j b e1
        have jl : j < xs.length := by rw [← hl]; exact (List.getElem?_eq_some_iff.mp e1).1
        obtain ⟨x', hx, rx⟩ := r1.get (List.getElem?_eq_getElem jl)
        obtain ⟨y', hy, ry⟩ := r2.get (List.getElem?_eq_getElem (show j < ys.length by omega))
        obtain ⟨u', hu, ru⟩ := r3.get (List.getElem?_eq_getElem (show j < zs.length by omega))
        have e0 := zip3_get (List.getElem?_eq_getElem jl) (List.getElem?_eq_getElem (show j < ys.length by omega)) (List.getElem?_eq_getElem (show j < zs.length by omega))
        rw [f1] at e0
        have e0 := Option.some.inj e0
        subst e0
        rw [show us.toArray[j]? = us[j]? by simp, hx] at g1
        rw [show vs.toArray[j]? = vs[j]? by simp, hy] at g2
        rw [show ws.toArray[j]? = ws[j]? by simp, hu] at g3
        cases g1
        cases g2
        cases g3
        exact ⟨by show 3 ≤ sizeLine; decide, [x, y, u], .cons rx (.cons ry (.cons ru .nil)), ⟨_, g4, rfl, _, rfl⟩⟩
      · rw [off b hb hb2] at q
        exact (I.hok b u q).stay (fun d v _ y => hk d v y) (fun d y => kp d _ y) fun d xs y => kp d _ y
/-- list(zip(e, e2, e3)) -/
theorem pe_listZip3 (hc : X.calm = true) (ha : PA X [e, e2, e3] ta) (hg : Gl X "list") (hm : X.mg "list" = none) (hv : bootBuiltins "list" = some (.type "list")) (hg2 : Gl X "zip") (hm2 : X.mg "zip" = none)
    (hsl : starEach [.Call (.Name "zip" p2) [e, e2, e3] [] pos2] X.env = (false, eval (.Call (.Name "zip" p2) [e, e2, e3] [] pos2) X.env) :: starEach [] X.env := by rfl)
    (hs : starEach [e, e2, e3] X.env = (false, eval e X.env) :: starEach [e2, e3] X.env := by rfl) (hpl : (backTo pos2 (starEach [e2, e3] X.env)).any (·.1) = false := by rfl) :
    PE X (.Call (.Name "list" p) [.Call (.Name "zip" p2) [e, e2, e3] [] pos2] [] pos) (fun σ H Q => ta σ H fun vs H1 => rZ3 X.K vs H1 Q) := by
  refine ⟨fun pins s σ H Q I hq => ?_⟩
  refine wpAny_Call_Name_kw (ld_blt I hg hm hv ?_)
  refine PyProof.Rows.callWith_type1 ?_ hsl rfl
  rw [hsl]
  show wpAny _ _ (spliced ((false, eval (.Call (.Name "zip" p2) [e, e2, e3] [] pos2) X.env) :: backTo pos (starEach [] X.env))) _ _ s
  refine Calls.spliced_cons ?_
  refine Call_ (ld_blt I hg2 hm2 PyProof.Rows.boot_zip (PyProof.Rows.callWith_type1 (thn (ha.run pos2 pins s σ H _ I hq) fun us s1 ⟨vs, H1, I1, rr, a, b, c, xs, ys, zs, ex, h1, h2, h3, l2, l3, q⟩ => ?_) hs hpl))
  subst ex
  cases rr with
  | cons ra rr =>
    cases rr with
    | cons rb rr =>
      cases rr with
      | cons rc rr =>
        cases rr
        cases ra
        cases rb
        cases rc
        obtain ⟨its, rv, p1, hz⟩ := I1.list h1
        obtain ⟨its2, rv2, q1, _⟩ := I1.list h2
        obtain ⟨its3, rv3, q2, _⟩ := I1.list h3
        have e1 := rv.length
        have e2' := rv2.length
        have e3' := rv3.length
        refine call_zip_3 p1.isList q1.isList q2.isList fun h' st sz hk => ?_
        refine Calls.spliced_nil ?_
        refine z3_call (s := { s1 with heap := h' }) (I1.ok.hd hc) st (by rw [List.size_toArray]; omega) (by rw [List.size_toArray, List.size_toArray]; omega) (by rw [List.size_toArray, List.size_toArray]; omega) fun h'' tk acc c0 as hk2 hS hl hG hacc => ?_
        rw [List.size_toArray] at hl
        have hk3 : ∀ b o, s1.heap.get? b = some o → h''.get? b = some o := fun b o e => hk2 b o (.inl (Heap.lt_size e)) (hk b o e)
        obtain ⟨g1, g2, g3, g4, J⟩ := laid3 (tk := tk) I1 (by omega) rv rv2 rv3 l2 l3 hk3 (by show s1.heap.objs.size ≤ h'.objs.size; omega) hS (by omega) hG hacc
        exact ⟨.ref _, _, J, rfl, q _ as (by omega) g1 g2 g3 g4⟩
end
end Z3

namespace OI
open PySem PySem.Spec PyProof.Rows L2 Z3
section
variable {X : Cx} {c : Cn} {W : WX} {R : Runs} {a a2 a3 : Expr} {ia ib ic : IE} {p p2 pos pos2 : Pos} {S S1 S2 : Wd}
theorem Al.trans (h1 : Al c S S1) (h2 : Al c S1 S2) : Al c S S2 where
  am := h2.am.trans h1.am
  old := fun p o h => by
    obtain ⟨a1, a2⟩ := h1.old p o h
    obtain ⟨b1, b2⟩ := h2.old p o a1
    exact ⟨b1, b2.trans a2⟩
  new := fun p h => by
    cases e : S1.H p with
    | none => exact h2.new p e
    | some o =>
      rw [(h2.old p o e).2]
      exact h1.new p h
  dom := h2.dom
  hl := h2.hl
theorem puts3 {e : OI.Env} {s : Store} {σ : L2.St} : ∀ (ts : List Addr) (xs ys zs : List D) (vs ws us : List V) (S : Wd), Rl c S e s σ → (∀ t ∈ ts, S.H t = none) → ts.Nodup → ts.length = xs.length → ys.length = xs.length → zs.length = xs.length → RepDs c S xs vs → RepDs c S ys ws → RepDs c S zs us →
    ∃ S', Al c S S' ∧ Rl c S' e s σ ∧ S'.H = putZ S.H ts (zip3 vs ws us) ∧ RepDs c S' (zipD xs ys zs) (ts.map V.ref)
  | [], [], ys, zs, vs, ws, us, S, Rr, _, _, _, _, _, _, _, _ => ⟨S, Al.refl Rr.toRlS, Rr, rfl, rfl⟩
  | [], _ :: _, _, _, _, _, _, _, _, _, _, h, _, _, _, _, _ => by cases h
  | _ :: _, [], _, _, _, _, _, _, _, _, _, h, _, _, _, _, _ => by cases h
  | _ :: _, _ :: _, [], _, _, _, _, _, _, _, _, _, h, _, _, _, _ => by cases h
  | _ :: _, _ :: _, _ :: _, [], _, _, _, _, _, _, _, _, _, h, _, _, _ => by cases h
  | t :: ts, x :: xs, y :: ys, z :: zs, vs, ws, us, S, Rr, hn, nd, l1, l2, l3, r1, r2, r3 => by
    obtain ⟨v, vs, rfl, rx, r1⟩ := r1
    obtain ⟨w, ws, rfl, ry, r2⟩ := r2
    obtain ⟨u, us, rfl, rz, r3⟩ := r3
    obtain ⟨S1, al, hH, rp⟩ := new_tup Rr.toRlS (hn t (List.mem_cons_self ..)) (ds := [x, y, z]) (vs := [v, w, u]) ⟨_, _, rfl, rx, _, _, rfl, ry, _, _, rfl, rz, rfl⟩ (by simp)
    have nd' := List.nodup_cons.mp nd
    have R1 := al.rl Rr
    obtain ⟨S2, al2, R2, hH2, rp2⟩ := puts3 ts xs ys zs vs ws us S1 R1 (fun q hq => by
      have hne : q ≠ t := fun e => nd'.1 (by rw [← e]; exact hq)
      rw [hH, upd_ne hne]
      exact hn q (List.mem_cons_of_mem _ hq)) nd'.2 (Nat.succ.inj l1) (Nat.succ.inj l2) (Nat.succ.inj l3) (r1.mono al.fr) (r2.mono al.fr) (r3.mono al.fr)
    refine ⟨S2, al.trans al2, R2, ?_, ?_⟩
    · rw [hH2, hH]
      rfl
    · exact ⟨.ref t, ts.map V.ref, rfl, RepD.mono al2.fr rp, rp2⟩
theorem s_lzip (hK : X.K = c.K) (hc : X.calm = true) (hg : Gl X "list") (hm : X.mg "list" = none) (hv : bootBuiltins "list" = some (.type "list")) (hg2 : Gl X "zip") (hm2 : X.mg "zip" = none)
    (hp : plainE a = true) (ha : PE X a (tE c W (ev R ia))) (hp2 : plainE a2 = true) (hb : PE X a2 (tE c W (ev R ib))) (hp3 : plainE a3 = true) (hb3 : PE X a3 (tE c W (ev R ic))) :
    PE X (.Call (.Name "list" p) [.Call (.Name "zip" p2) [a, a2, a3] [] pos2] [] pos) (tE c W (ev R (.bi3 "lzip" ia ib ic))) :=
  (pe_listZip3 hc (pa3 hp ha hp2 hb hp3 hb3) hg hm hv hg2 hm2 (plain_star (by rfl) [] X.env) (plain_star hp [a2, a3] X.env) (any2 hp2 hp3)).weak fun σ H Q q =>
    three_ok (rest := fun x y z H => rZ3 X.K [x, y, z] H Q) q fun S e s m1 m2 m3 x y z Rr r1 r2 r3 p => by
      obtain ⟨m, hm, p⟩ := out_ok p
      unfold bi3 at hm
      simp only at hm
      split at hm
      · rename_i xs ys zs h1 h2 h3
        split at hm
        · rename_i hlen
          cases hm
          obtain ⟨a1, v1, rfl, q1, d1⟩ := lst_of h1 r1
          obtain ⟨a2, v2, rfl, q2, d2⟩ := lst_of h2 r2
          obtain ⟨a3, v3, rfl, q3, d3⟩ := lst_of h3 r3
          have e1 := d1.length
          have e2 := d2.length
          have e3 := d3.length
          refine ⟨a1, a2, a3, v1, v2, v3, rfl, by rw [hK]; exact q1, by rw [hK]; exact q2, by rw [hK]; exact q3, by omega, by omega, fun pl ts ht nd hn hts hni => ?_⟩
          obtain ⟨S1, al, R1, hH, rp⟩ := puts3 ts xs ys zs v1 v2 v3 S Rr hts nd (by omega) hlen.1 hlen.2.1 d1 d2 d3
          obtain ⟨S2, al2, hH2, rp2⟩ := new_lst R1.toRlS (p := pl) (by rw [hH, putZ_off ts _ _ hni]; exact hn) rp (by
            rw [List.length_map]
            have : LIM = 16777216 := rfl
            omega)
          have fin := end_al Rr p (al.trans al2) rp2
          rw [hH2, hH] at fin
          exact fin
        · cases hm
      · cases hm
end
end OI

/-! OIv: whether a text of mine is the text of the row: expressions. -/
namespace OI
open PySem PySem.Spec PyProof.Rows L2

/-- what a text has: defs, built-ins, methods, classes to be made, fields, exceptions, constants -/
structure Tab where
  fns : List (String × Nat)
  blts : List String
  mths : List (String × String × Nat) := []
  news : List (String × Nat) := []
  flds : List String := []
  exs : List String := []
  glbs : List (String × D) := []
  lfns : List String := []
/-- where code stands: the slots' names, the scope, what it may use; hot: in an except suite; app: a lambda in hand is called; mak: lambdas are made; lc: what a lambda's body is -/
structure Ck where
  N : List Str
  sc : Scope
  T : Tab
  hot : Bool := false
  app : Bool := false
  mak : Bool := false
  lc : String → List Str → Expr → Scope → Bool := fun _ _ _ _ => false
structure CkOk (k : Ck) (X : Cx) (c : Cn) (R : Runs) : Prop where
  N : X.N = k.N
  nd : k.N.Nodup
  sc : X.env.scope = k.sc
  K : X.K = c.K
  calm : k.hot = false → X.calm = true
  un : X.A.units + 65 < cLine
  fn : k.hot = false → ∀ f np, (f, np) ∈ k.T.fns → ∃ j, FnI X c R j f np ∧ Room j X.A
  mt : k.hot = false → ∀ C m np, (C, m, np) ∈ k.T.mths → ∃ j, MtI X c R j C m np ∧ Room j X.A
  nw : k.hot = false → ∀ C np, (C, np) ∈ k.T.news → ∃ j, NwI X c R j C np ∧ Room (j + 1) X.A
  blt : ∀ x ∈ k.T.blts, X.mg (Str.ofString x) = none
  fld : ∀ f ∈ k.T.flds, ∀ kk, Cls X.K (c.icl kk) ∧ NoAttr X.K (c.icl kk) (Str.ofString f)
  ext : ExTab X c k.T.exs
  glb : ∀ x d, (x, d) ∈ k.T.glbs → GlobOk c X.mg x d
  hotE : HotE X c k.T.exs
  ex0 : k.hot = false → c.exn = none
  app : k.app = true → AppC X c R
  mkr : k.mak = true → MkOk X c ∧ c.lam = none
  lcb : k.hot = false → ∀ (f g : String) (T : LamTx), f ∈ k.T.lfns → k.lc g T.N T.body T.scope = true → T.Ok → LcOk X c R f g T

/-- within a comprehension -/
def Ck.inner (k : Ck) (scope : Scope) : Ck := { k with sc := relS scope k.sc, app := false, mak := false, lc := fun _ _ _ _ => false }
def visC (sc : Scope) (x : Str) : Bool := match sc.names.lookup x with
  | some .local => true
  | some .cell => true
  | some .free => true
  | _ => false
def locC (sc : Scope) (x : Str) : Bool := match sc.names.lookup x with
  | some .local => true
  | some .cell => true
  | _ => false
def glC (sc : Scope) (x : Str) : Bool := match sc.names.lookup x with
  | some .globalImplicit => true
  | _ => false
theorem visC_ok {sc : Scope} {x : Str} (h : visC sc x = true) : Vis sc x := by
  unfold visC at h
  split at h
  · exact .inl (by assumption)
  · exact .inr (.inl (by assumption))
  · exact .inr (.inr (by assumption))
  · cases h
theorem locC_ok {sc : Scope} {x : Str} (h : locC sc x = true) : Loc sc x := by
  unfold locC at h
  split at h
  · exact .inl (by assumption)
  · exact .inr (by assumption)
  · cases h
def plainName (x : Str) : Bool := !(x == ("__debug__" : Str)) && !(x == ("__classdict__" : Str)) && !(x == ("__name__" : Str))
theorem plainName_ok {x : Str} (h : plainName x = true) : (x == ("__debug__" : Str)) = false ∧ (x == ("__classdict__" : Str)) = false ∧ x ≠ "__name__" := by
  unfold plainName at h
  simp only [Bool.and_eq_true, Bool.not_eq_true'] at h
  exact ⟨h.1.1, h.1.2, fun e => by have := h.2; rw [e] at this; simp at this⟩
/-- x names the built-in b -/
def bltC (k : Ck) (b : String) (x : Str) : Bool := decide (x = Str.ofString b) && k.T.blts.contains b && glC k.sc x && plainName x
theorem glC_ok {k : Ck} {X : Cx} {c : Cn} {R : Runs} (ok : CkOk k X c R) {x : Str} (h : glC k.sc x = true) : Gl X x := by
  unfold glC at h
  split at h
  · show X.env.scope.names.lookup x = _
    rw [ok.sc]
    assumption
  · cases h
structure BltOk (X : Cx) (b : String) (x : Str) : Prop where
  eq : x = Str.ofString b
  gl : Gl X x
  mg : X.mg x = none
  nn : x ≠ "__name__"
  nd : (x == ("__debug__" : Str)) = false
theorem bltC_ok {k : Ck} {X : Cx} {c : Cn} {R : Runs} (ok : CkOk k X c R) {b : String} {x : Str} (h : bltC k b x = true) : BltOk X b x := by
  unfold bltC at h
  simp only [Bool.and_eq_true, decide_eq_true_eq] at h
  obtain ⟨⟨⟨h1, h2⟩, h3⟩, h4⟩ := h
  have hp := plainName_ok h4
  exact ⟨h1, glC_ok ok h3, by rw [h1]; exact ok.blt b (by simpa using h2), hp.2.2, hp.1⟩
def binC : BOp → Operator → Bool
  | .add, .Add => true
  | .sub, .Sub => true
  | .mul, .Mult => true
  | .fdiv, .FloorDiv => true
  | .mod, .Mod => true
  | .pow, .Pow => true
  | _, _ => false
theorem binC_ok {X : Cx} {c : Cn} (hK : X.K = c.K) {op : BOp} {o : Operator} (h : binC op o = true) : OpR X (binaryOp o) (R2of c (bin op)) := by
  cases op <;> cases o <;> first | (cases h; done) | exact v_add hK | exact v_sub | exact v_mul hK | exact v_fdiv | exact v_mod | exact v_pow
def cmpC : COp → CmpOp → Bool
  | .eq, .Eq => true
  | .ne, .NotEq => true
  | .lt, .Lt => true
  | .le, .LtE => true
  | .gt, .Gt => true
  | .ge, .GtE => true
  | .isin, .In => true
  | .nin, .NotIn => true
  | _, _ => false
theorem cmpC_ok {X : Cx} {c : Cn} (hK : X.K = c.K) (hu : X.A.units + 65 < cLine) {op : COp} {o : CmpOp} (h : cmpC op o = true) : OpR X (compareOp o) (R2b c (cmp op)) := by
  cases op <;> cases o <;> first | (cases h; done) | exact v_eq hK (by omega) | exact v_ne hK (by omega) | exact v_lt | exact v_le | exact v_gt | exact v_ge | exact v_in hK hu | exact v_nin hK hu
/-- the built-in names of types -/
def tyC (k : Ck) (t : Ty) (e : Expr) : Bool := match e with
  | .Name x _ => match t.name? with
    | some n => bltC k n x
    | none => false
  | _ => false
def tysC (k : Ck) : List Ty → List Expr → Bool
  | [], [] => true
  | t :: ts, e :: es => tyC k t e && tysC k ts es
  | _, _ => false
theorem bootTy {t : Ty} {n : String} (h : t.name? = some n) : bootBuiltins (Str.ofString n) = some (.type n) := by
  cases t <;> cases h <;> decide +kernel
theorem tysC_ok {k : Ck} {X : Cx} {c : Cn} {R : Runs} (ok : CkOk k X c R) : ∀ {ts : List Ty} {es : List Expr}, tysC k ts es = true → ∃ ns, TyNames X es ns ∧ ts.mapM Ty.name? = some ns ∧ ns.length = ts.length
  | [], [], _ => ⟨[], .nil, rfl, rfl⟩
  | t :: ts, e :: es, h => by
    unfold tysC at h
    rw [Bool.and_eq_true] at h
    obtain ⟨ns, h1, h2, h3⟩ := tysC_ok ok h.2
    have h0 := h.1
    unfold tyC at h0
    split at h0
    · split at h0
      · rename_i x p _ n hn
        have b := bltC_ok ok h0
        refine ⟨n :: ns, .cons b.gl b.mg (by rw [b.eq]; exact bootTy hn) b.nn b.nd h1, ?_, by rw [List.length_cons, List.length_cons, h3]⟩
        rw [List.mapM_cons, hn, h2]
        rfl
      · cases h0
    · cases h0
  | [], _ :: _, h => by cases h
  | _ :: _, [], h => by cases h
/-- the names of exception classes -/
def clC (k : Ck) (t : Ty) (e : Expr) : Bool := match e with
  | .Name x _ => match t with
    | .own s => decide (x = Str.ofString s) && k.T.exs.contains s && glC k.sc x && plainName x
    | .valueError => bltC k "ValueError" x
    | _ => false
  | _ => false
def clsC (k : Ck) : List Ty → List Expr → Bool
  | [], [] => true
  | t :: ts, e :: es => clC k t e && clsC k ts es
  | _, _ => false
theorem clC_ok {k : Ck} {X : Cx} {c : Cn} {R : Runs} (ok : CkOk k X c R) {t : Ty} {e : Expr} (h : clC k t e = true) : ClName X k.T.exs e t := by
  unfold clC at h
  split at h
  · split at h
    · simp only [Bool.and_eq_true, decide_eq_true_eq] at h
      obtain ⟨⟨⟨rfl, h2⟩, h3⟩, h4⟩ := h
      exact .own (by simpa using h2) (glC_ok ok h3) (plainName_ok h4).1
    · have b := bltC_ok ok h
      have he := b.eq
      have hg := b.gl
      have hm := b.mg
      subst he
      exact .ve hg hm
    · cases h
  · cases h
theorem clsC_ok {k : Ck} {X : Cx} {c : Cn} {R : Runs} (ok : CkOk k X c R) : ∀ {ts : List Ty} {es : List Expr}, clsC k ts es = true → ClNames X k.T.exs es ts
  | [], [], _ => .nil
  | t :: ts, e :: es, h => by
    unfold clsC at h
    rw [Bool.and_eq_true] at h
    exact .cons (clC_ok ok h.1) (clsC_ok ok h.2)
  | [], _ :: _, h => by cases h
  | _ :: _, [], h => by cases h
/-- a target; cok: the cells that may be stored -/
def tg1C (k : Ck) (cok : Str → Bool) (i : Nat) (e : Expr) : Bool := match e with
  | .Name x _ => decide (k.N[i]? = some x) && (match k.sc.names.lookup x with
    | some .local => true
    | some .cell => cok x
    | _ => false)
  | _ => false
def tgsC (k : Ck) (cok : Str → Bool) : List Nat → List Expr → Bool
  | [], [] => true
  | i :: is, e :: es => tg1C k cok i e && tgsC k cok is es
  | _, _ => false
def tgC (k : Ck) (cok : Str → Bool) (t : Tg) (e : Expr) : Bool := match t with
  | .one i => tg1C k cok i e
  | .many is => match e with
    | .Tuple es _ _ => !k.hot && tgsC k cok is es
    | _ => false
theorem tg1C_ok {k : Ck} {X : Cx} {c : Cn} {R : Runs} (ok : CkOk k X c R) {cok : Str → Bool} (hc : ∀ x, cok x = true → X.fn x = true) {i : Nat} {e : Expr} (h : tg1C k cok i e = true) : ∃ x p, e = .Name x p ∧ PG X e (gName i) := by
  unfold tg1C at h
  split at h
  · rename_i x p
    rw [Bool.and_eq_true, decide_eq_true_eq] at h
    refine ⟨x, p, rfl, ?_⟩
    have hN : X.N.Nodup := by rw [ok.N]; exact ok.nd
    have hi : X.N[i]? = some x := by rw [ok.N]; exact h.1
    have h2 := h.2
    split at h2
    · rename_i hl
      rw [← ok.sc] at hl
      exact pg_name hN hi (.inl hl) (.inr hl)
    · rename_i hl
      rw [← ok.sc] at hl
      exact pg_name hN hi (.inr hl) (.inl (hc x h2))
    · cases h2
  · cases h
theorem tgsC_ok {k : Ck} {X : Cx} {c : Cn} {R : Runs} (ok : CkOk k X c R) {cok : Str → Bool} (hc : ∀ x, cok x = true → X.fn x = true) : ∀ {is : List Nat} {es : List Expr}, tgsC k cok is es = true → PGs X es (gNames is) ∧ (assignEach es X.env).length = is.length ∧ (assignEach es X.env).findIdx? (·.1) = none
  | [], [], _ => ⟨pgs_nil, rfl, rfl⟩
  | i :: is, e :: es, h => by
    unfold tgsC at h
    rw [Bool.and_eq_true] at h
    obtain ⟨x, p, rfl, h1⟩ := tg1C_ok ok hc h.1
    obtain ⟨h2, h3, h4⟩ := tgsC_ok ok hc h.2
    refine ⟨pgs_cons h1 h2 rfl, ?_, ?_⟩
    · show (assignEach es X.env).length + 1 = _
      rw [h3, List.length_cons]
    · show List.findIdx? _ ((false, _) :: assignEach es X.env) = none
      rw [List.findIdx?_cons, h4]
      rfl
  | [], _ :: _, h => by cases h
  | _ :: _, [], h => by cases h
theorem tgC_ok {k : Ck} {X : Cx} {c : Cn} {R : Runs} (ok : CkOk k X c R) {cok : Str → Bool} (hc : ∀ x, cok x = true → X.fn x = true) {t : Tg} {e : Expr} (h : tgC k cok t e = true) : PG X e (gT X.K t) := by
  cases t with
  | one i =>
    obtain ⟨x, p, rfl, h1⟩ := tg1C_ok ok hc h
    exact h1
  | many is =>
    unfold tgC at h
    dsimp only at h
    split at h
    · rw [Bool.and_eq_true, Bool.not_eq_true'] at h
      obtain ⟨h1, h2, h3⟩ := tgsC_ok ok hc h.2
      exact pg_tup (n := is.length) (ok.calm h.1) h1 h2 h3
    · cases h

theorem pt_ifE {X : Cx} {z a b : Expr} {tc ta tb : TT} {pos : Pos} (hc : PT X z tc) (ha : PT X a ta) (hb : PT X b tb) : PT X (.IfExp z a b pos) (fun σ H Q => tc σ H fun k H1 => if k = true then ta σ H1 Q else tb σ H1 Q) := by
  refine ⟨fun pins s σ H Q I h => ?_⟩
  refine isTrue_IfExp (thn (hc.run pins s σ H _ I h) fun d s1 ⟨H1, I1, q1⟩ => ?_)
  cases d with
  | true => exact ha.run pins s1 σ H1 Q I1 q1
  | false => exact hb.run pins s1 σ H1 Q I1 q1
theorem tT_end {c : Cn} {W : WX} {fa : OI.Env → Store → Res (M × Pl)} {σ : L2.St} {S : Wd} {e : OI.Env} {s : Store} {Q : Bool → Hp → Prop} (Rr : Rl c S e s σ) (p : PostG c W σ S s ((outM (valM fa e s)).bind fun x e1 s1 => getB x.1 e1 s1) rB Q) : tT c W fa σ S.H Q := by
  refine ⟨S, e, s, rfl, Rr, ?_⟩
  unfold testB
  unfold outM valM at p
  cases h : fa e s with
  | ok x e1 s1 =>
    rw [h] at p
    obtain ⟨m, pl⟩ := x
    cases m with
    | val d => exact p
    | ol xs => cases pl <;> exact p.elim
    | od t kvs => cases pl <;> exact p.elim
  | err k e1 s1 => rw [h] at p; exact p
  | bad => rw [h] at p; exact p
theorem t_ife {X : Cx} {c : Cn} {W : WX} {R : Runs} {z a b : Expr} {iz ia ib : IE} {pos : Pos} (hc : PT X z (tT c W (ev R iz))) (ha : PT X a (tT c W (ev R ia))) (hb : PT X b (tT c W (ev R ib))) : PT X (.IfExp z a b pos) (tT c W (ev R (.ife iz ia ib))) :=
  (pt_ifE hc ha hb).weak fun σ H Q q => by
    obtain ⟨S, e, s, rfl, Rr, p⟩ := q
    have p : PostG c W σ S s (((testB (ev R iz) e s).bind fun k => ifeK k (valM (ev R ia)) (valM (ev R ib))).bind fun x e1 s1 => getB x.1 e1 s1) rB Q := p
    rw [Res.bind_bind] at p
    refine ⟨S, e, s, rfl, Rr, PostG.bind Rr.toRlS p fun k e1 s1 S1 k' q1 R1 st1 rp1 p1 => ?_⟩
    cases rp1
    unfold ifeK at p1
    cases k with
    | true => exact tT_end R1 p1
    | false => exact tT_end R1 p1

/-- a lambda without parameters, its names captured -/
def noArgs (p : Arguments) : Bool := match p with
  | ⟨[], [], none, [], [], none, []⟩ => true
  | _ => false
def namesC (msc sc : Scope) : Bool := sc.names.all fun y => !decide (y.2 = .local) && !decide (y.2 = .cell) && (!decide (y.2 = .free) || decide (msc.names.lookup y.1 = some .cell) || decide (msc.names.lookup y.1 = some .free))
def lamC0 (k : Ck) (caps : List Nat) (p : Arguments) (sc : Scope) : Bool :=
  noArgs p && decide (sc.kind = .function) && !sc.isCoroutine && !sc.isGenerator && namesC k.sc sc && caps.all fun i => decide (i < k.N.length)
theorem noArgs_ok {p : Arguments} (h : noArgs p = true) : p = ⟨[], [], none, [], [], none, []⟩ := by
  unfold noArgs at h
  split at h
  · rfl
  · cases h
def capN (k : Ck) (caps : List Nat) : List Str := caps.map fun i => k.N.getD i ⟨#[]⟩
structure LamSite (k : Ck) (caps : List Nat) (p : Arguments) (sc : Scope) (body : Expr) : Prop where
  args : p = ⟨[], [], none, [], [], none, []⟩
  ok : (⟨capN k caps, p, body, sc⟩ : LamTx).Ok
  free : ∀ y ∈ sc.names, y.2 = .free → k.sc.names.lookup y.1 = some .cell ∨ k.sc.names.lookup y.1 = some .free
  len : caps.length = (capN k caps).length
  at_ : ∀ (j : Nat) (y : Str), (capN k caps)[j]? = some y → ∃ i, caps[j]? = some i ∧ k.N[i]? = some y
theorem lamC0_ok {k : Ck} {caps : List Nat} {p : Arguments} {sc : Scope} {body : Expr} (h : lamC0 k caps p sc = true) : LamSite k caps p sc body := by
  unfold lamC0 namesC at h
  simp only [Bool.and_eq_true, Bool.or_eq_true, Bool.not_eq_true', decide_eq_true_eq, decide_eq_false_iff_not, List.all_eq_true] at h
  obtain ⟨⟨⟨⟨⟨h1, h2⟩, h3⟩, h4⟩, h5⟩, h6⟩ := h
  have ea := noArgs_ok h1
  refine ⟨ea, ⟨h2, h3, h4, fun y hy => (h5 y hy).1, fun q cl pm cv ctv => ?_⟩, fun y hy e => ?_, by unfold capN; rw [List.length_map], fun j y hj => ?_⟩
  · rw [ea]
    rfl
  · rcases (h5 y hy).2 with (z | z) | z
    · exact absurd e z
    · exact .inl z
    · exact .inr z
  · unfold capN at hj
    rw [List.getElem?_map] at hj
    cases q : caps[j]? with
    | none => rw [q] at hj; cases hj
    | some i =>
      rw [q] at hj
      have hi := h6 i (List.mem_of_getElem? q)
      refine ⟨i, rfl, ?_⟩
      have hj : k.N.getD i ⟨#[]⟩ = y := by simpa using hj
      rw [List.getD_eq_getElem?_getD, List.getElem?_eq_getElem hi] at hj
      rw [List.getElem?_eq_getElem hi]
      exact congrArg some hj
def bm1L : List String := ["index", "count", "join", "split"]
def bi1B : List String := ["len", "sum", "max", "min", "sorted"]
def bi1T : List String := ["list", "tuple", "dict", "int", "str"]
mutual
def chkE (k : Ck) : IE → Expr → Bool
  | .var i, e => match e with
    | .Name x _ => decide (k.N[i]? = some x) && visC k.sc x && plainName x
    | _ => false
  | .cst d, e => match e with
    | .Constant (.int j) _ _ => decide (d = .int j)
    | .Constant (.bool j) _ _ => decide (d = .bl j)
    | .Constant (.str j) _ _ => decide (d = .str j)
    | .Constant .none _ _ => decide (d = .non)
    | _ => false
  | .bin op a b, e => match e with
    | .BinOp x o y _ => binC op o && chkE k a x && chkE k b y
    | _ => false
  | .neg a, e => match e with
    | .UnaryOp .USub x _ => chkE k a x
    | _ => false
  | .cmp op a b, e => match e with
    | .Compare x [o] [y] _ => cmpC op o && plainE y && chkE k a x && chkE k b y
    | _ => false
  | .isN n a, e => match e with
    | .Compare x [.Is] [.Constant .none _ _] _ => !n && chkE k a x
    | .Compare x [.IsNot] [.Constant .none _ _] _ => n && chkE k a x
    | _ => false
  | .isB n a b, e => match e with
    | .Compare x [.Is] [.Constant (.bool v) _ _] _ => !n && decide (b = v) && chkE k a x
    | .Compare x [.IsNot] [.Constant (.bool v) _ _] _ => n && decide (b = v) && chkE k a x
    | _ => false
  | .both a b, e => match e with
    | .BoolOp .And [x, y] _ => chkE k a x && chkE k b y
    | .BoolOp .And (x :: y :: z :: r) p => chkE k a x && chkE k b (.BoolOp .And (y :: z :: r) p)
    | _ => false
  | .either a b, e => match e with
    | .BoolOp .Or [x, y] _ => chkE k a x && chkE k b y
    | .BoolOp .Or (x :: y :: z :: r) p => chkE k a x && chkE k b (.BoolOp .Or (y :: z :: r) p)
    | _ => false
  | .nott a, e => match e with
    | .UnaryOp .Not x _ => chkE k a x
    | _ => false
  | .ife c a b, e => match e with
    | .IfExp z x y _ => chkE k c z && chkE k a x && chkE k b y
    | _ => false
  | .tup es, e => match e with
    | .Tuple as _ _ => decide (es.len ≤ 1000) && chkEs k es as
    | _ => false
  | .lst es, e => match e with
    | .List as _ => decide (es.len ≤ 1000) && chkEs k es as
    | _ => false
  | .idx a b, e => match e with
    | .Subscript x y _ => plainE y && chkE k a x && chkE k b y
    | _ => false
  | .slc a lo hi, e => match e with
    | .Subscript x (.Slice l h none _) _ => chkE k a x && chkO k lo l && chkO k hi h
    | _ => false
  | .call f es, e => match e with
    | .Call (.Name x _) (a :: as) [] _ => !k.hot && decide (x = Str.ofString f) && k.T.fns.contains (f, es.len) && glC k.sc x && plainName x && (a :: as).all plainE && chkEs k es (a :: as)
    | _ => false
  | .bi1 f a, e => match e with
    | .Call (.Name x _) [y] [] _ => !k.hot && bltC k f x && (bi1B.contains f || bi1T.contains f) && plainE y && chkE k a y
    | _ => false
  | .bi2 f a b, e => match e with
    | .Call (.Name x _) [y, z] [] _ => !k.hot && bltC k f x && (f == "max" || f == "min") && plainE y && plainE z && chkE k a y && chkE k b z
    | .Call (.Name x _) [y] [⟨some nm, z, _⟩] _ => !k.hot && bltC k "max" x && decide (f = "maxd") && decide (nm = Str.ofString "default") && plainE y && chkE k a y && chkE k b z
    | _ => false
  | .bi3 f a b d, e => match e with
    | .Call (.Name x _) [y, z, w] [] _ => !k.hot && bltC k f x && (f == "max") && plainE y && plainE z && plainE w && chkE k a y && chkE k b z && chkE k d w
    | .Call (.Name x _) [.Call (.Name x2 _) [y, z, w] [] _] [] _ => !k.hot && bltC k "list" x && bltC k "zip" x2 && decide (f = "lzip") && plainE y && plainE z && plainE w && chkE k a y && chkE k b z && chkE k d w
    | _ => false
  | .isi a one ts, e => match e with
    | .Call (.Name x _) [y, .Tuple as _ _] [] _ => bltC k "isinstance" x && plainE y && !one && decide (ts ≠ []) && decide (ts.length ≤ 1000) && (tysC k ts as || clsC k ts as) && chkE k a y
    | .Call (.Name x _) [y, .Name n p] [] _ => bltC k "isinstance" x && plainE y && one && (tysC k ts [.Name n p] || clsC k ts [.Name n p]) && chkE k a y
    | _ => false
  | .lc elt t it co own, e => match e with
    | .ListComp x [⟨tg, iter, ifs, 0⟩] scope _ => !k.hot && (t.slots.all fun i => own.contains i) && plainE iter && blkC k.N k.sc scope (own.map fun i => (k.N.getD i ⟨#[]⟩, i)) && chkI k it tg iter
      && tgC (k.inner scope) (fun x => scope.names.lookup x == some .cell) t tg && chkE (k.inner scope) elt x && chkC (k.inner scope) co ifs
    | _ => false
  | .share a, e => plainT e && chkE k a e
  | .glob x d, e => match e with
    | .Name y _ => decide (y = Str.ofString x) && k.T.glbs.contains (x, d) && glC k.sc y && plainName y
    | _ => false
  | .chain op op2 a b d, e => match e with
    | .Compare x [o, o2] [y, z] _ => cmpC op o && cmpC op2 o2 && plainE z && chkE k a x && chkE k b y && chkE k d z
    | _ => false
  | .chain3 op op2 op3 a b d d2, e => match e with
    | .Compare x [o, o2, o3] [y, z, w] _ => cmpC op o && cmpC op2 o2 && cmpC op3 o3 && plainE w && chkE k a x && chkE k b y && chkE k d z && chkE k d2 w
    | _ => false
  | .attr a f, e => match e with
    | .Attribute x fx _ => decide (fx = Str.ofString f) && k.T.flds.contains f && plainE x && chkE k a x
    | _ => false
  | .meth o C m es, e => match e with
    | .Call (.Attribute x fx ap) as [] cp => !k.hot && decide (fx = Str.ofString m) && k.T.mths.contains (C, m, es.len + 1) && plainE x && as.all plainE && decide (as.length < 30) && (ap.endLine == cp.line) && chkE k o x && chkEs k es as
    | _ => false
  | .new C es, e => match e with
    | .Call (.Name x _) as [] _ => !k.hot && decide (x = Str.ofString C) && k.T.news.contains (C, es.len + 1) && glC k.sc x && plainName x && as.all plainE && chkEs k es as
    | _ => false
  | .bm1 m o a, e => match e with
    | .Call (.Attribute x fx ap) [y] [] cp => decide (fx = Str.ofString m) && bm1L.contains m && plainE x && plainE y && (ap.endLine == cp.line) && chkE k o x && chkE k a y
    | _ => false
  | .bm2 m o a b, e => match e with
    | .Call (.Attribute x fx ap) [y, z] [] cp => (m == "get") && decide (fx = Str.ofString m) && plainE x && plainE y && plainE z && (ap.endLine == cp.line) && chkE k o x && chkE k a y && chkE k b z
    | _ => false
  | .dct t ps, e => match e with
    | .Dict keys values _ => (!t || decide (ps.len = 0)) && decide (ps.len ≤ 15) && chkPs k ps keys values
    | _ => false
  | .lrange a b, e => match e with
    | .Call (.Name x _) [.Call (.Name y _) [z, w] [] _] [] _ => !k.hot && bltC k "list" x && bltC k "range" y && plainE z && plainE w && chkE k a z && chkE k b w
    | _ => false
  | .app a, e => match e with
    | .Call (.Name x _) [] [] _ => match a with
      | .var i => k.app && decide (k.N[i]? = some x) && visC k.sc x && plainName x
      | _ => false
    | _ => false
  | .lcall f g caps, e => match e with
    | .Call (.Name x _) [.Lambda params body scope _] [] _ => !k.hot && k.mak && decide (x = Str.ofString f) && k.T.lfns.contains f && glC k.sc x && plainName x && lamC0 k caps params scope && k.lc g (capN k caps) body scope
    | _ => false
  | .bad, _ => true
  | _, _ => false
def chkPs (k : Ck) : IPs → List (Option Expr) → List Expr → Bool
  | .nil, ks, vs => ks.isEmpty && vs.isEmpty
  | .cons a b r, ks, vs => match ks with
    | some x :: xs => match vs with
      | y :: ys => chkE k a x && chkE k b y && chkPs k r xs ys
      | [] => false
    | _ => false
def chkEs (k : Ck) : IEs → List Expr → Bool
  | .nil, es => es.isEmpty
  | .cons a r, es => match es with
    | x :: xs => plainE x && chkE k a x && chkEs k r xs
    | [] => false
def chkO (k : Ck) : IO → Option Expr → Bool
  | .no, o => o.isNone
  | .yes a, o => match o with
    | some x => chkE k a x
    | none => false
def chkC (k : Ck) : IO → List Expr → Bool
  | .no, o => o.isEmpty
  | .yes a, o => match o with
    | [x] => chkE k a x
    | _ => false
def chkI (k : Ck) : OI.It → Expr → Expr → Bool
  | .of a, _, e => chkE k a e
  | .rng1 a, _, e => match e with
    | .Call (.Name x _) [y] [] _ => bltC k "range" x && plainE y && chkE k a y
    | _ => false
  | .rng2 a b, _, e => match e with
    | .Call (.Name x _) [y, z] [] _ => bltC k "range" x && plainE y && plainE z && chkE k a y && chkE k b z
    | _ => false
  | .rng3 a b d, _, e => match e with
    | .Call (.Name x _) [y, z, w] [] _ => bltC k "range" x && plainE y && plainE z && plainE w && chkE k a y && chkE k b z && chkE k d w
    | _ => false
  | .zip a b, tg, e => match tg with
    | .Tuple _ _ _ => match e with
      | .Call (.Name x _) [y, z] [] _ => bltC k "zip" x && plainE y && plainE z && chkE k a y && chkE k b z
      | _ => false
    | _ => false
end

/-! ### it is so -/
theorem CkOk.blk {k : Ck} {X : Cx} {c : Cn} {R : Runs} (ok : CkOk k X c R) (hh : k.hot = false) {s : Shared} {H : Hp} {scope : Scope} {cl : List (Str × Addr)} {C : Addr} {fp : List Addr} : CkOk (k.inner scope) (X.blk s H scope (compEnvC scope cl C X.env) fp) c R where
  N := ok.N
  nd := ok.nd
  sc := by
    show PySem.relabel scope X.env = relS scope k.sc
    rw [← ok.sc]
    rfl
  K := ok.K
  calm := fun h => ok.calm h
  un := ok.un
  fn := fun hh f np h => by
    obtain ⟨j, ⟨hF⟩, hr⟩ := ok.fn hh f np h
    exact ⟨j, ⟨hF⟩, hr⟩
  mt := fun hh C m np h => by
    obtain ⟨j, ⟨h1, hF⟩, hr⟩ := ok.mt hh C m np h
    exact ⟨j, ⟨h1, hF⟩, hr⟩
  nw := fun hh C np h => by
    obtain ⟨j, ⟨h1, hF⟩, hr⟩ := ok.nw hh C np h
    exact ⟨j, ⟨h1, hF⟩, hr⟩
  blt := ok.blt
  fld := ok.fld
  ext := ⟨fun k hk => let e := ok.ext.ex k hk; ⟨e.mg, e.kp, e.xc, e.sb, e.ve, e.ty, e.is⟩, ok.ext.sub⟩
  glb := ok.glb
  hotE := fun a k h => by rw [ok.ex0 hh] at h; cases h
  ex0 := ok.ex0
  app := fun h => by cases h
  mkr := fun h => by cases h
  lcb := fun _ f g T _ h => by cases h
theorem es_len {k : Ck} : ∀ {es : IEs} {as : List Expr}, chkEs k es as = true → as.all plainE = true
  | .nil, as, h => by
    unfold chkEs at h
    rw [List.isEmpty_iff] at h
    rw [h]
    rfl
  | .cons a r, as, h => by
    unfold chkEs at h
    split at h
    · rw [Bool.and_eq_true, Bool.and_eq_true] at h
      rw [List.all_cons, h.1.1, es_len h.2]
      rfl
    · cases h
theorem es_nil {k : Ck} {es : IEs} (h : chkEs k es [] = true) : es = .nil := by
  cases es with
  | nil => rfl
  | cons a r => unfold chkEs at h; cases h
theorem ps_len {k : Ck} : ∀ {ps : IPs} {ks : List (Option Expr)} {vs : List Expr}, chkPs k ps ks vs = true → ks.all (·.isSome) = true ∧ ks.length = vs.length ∧ ks.length = ps.len ∧ (ps.len ≠ 0 → ks ≠ [])
  | .nil, ks, vs, h => by
    unfold chkPs at h
    rw [Bool.and_eq_true, List.isEmpty_iff, List.isEmpty_iff] at h
    obtain ⟨rfl, rfl⟩ := h
    exact ⟨rfl, rfl, rfl, fun z => absurd rfl z⟩
  | .cons a b r, ks, vs, h => by
    unfold chkPs at h
    split at h
    · split at h
      · rw [Bool.and_eq_true] at h
        obtain ⟨h1, h2, h3, _⟩ := ps_len h.2
        exact ⟨by rw [List.all_cons, h1]; rfl, by rw [List.length_cons, List.length_cons, h2], by rw [List.length_cons, h3]; rfl, fun _ z => by cases z⟩
      · cases h
    · cases h
section
variable {c : Cn} {R : Runs}
theorem bi1_ok {k : Ck} {X : Cx} {W : WX} (ok : CkOk k X c R) (hh : k.hot = false) {f : String} {x : Str} {p pos : Pos} {y : Expr} {ia : IE} (hb : bltC k f x = true) (hf : (bi1B.contains f || bi1T.contains f) = true) (hp : plainE y = true) (ha : PE X y (tE c W (ev R ia))) : PE X (.Call (.Name x p) [y] [] pos) (tE c W (ev R (.bi1 f ia))) := by
  have b := bltC_ok ok hb
  have h : f ∈ bi1B ∨ f ∈ bi1T := by
    rw [Bool.or_eq_true] at hf
    exact hf.imp (fun h => by simpa using h) (fun h => by simpa using h)
  have B : ∀ (g : String), f = g → CallR X (.builtin g) (R1c c (bi1 g)) → bootBuiltins (Str.ofString g) = some (.builtin g) → PE X (.Call (.Name x p) [y] [] pos) (tE c W (ev R (.bi1 f ia))) := fun g e hc hv => by
    subst e
    exact s_bi1B b.gl b.mg b.nn b.nd hc (by rw [b.eq]; exact hv) hp ha
  have T : ∀ (g : String), f = g → CallR X (.type g) (R1c c (bi1 g)) → bootBuiltins (Str.ofString g) = some (.type g) → PE X (.Call (.Name x p) [y] [] pos) (tE c W (ev R (.bi1 f ia))) := fun g e hc hv => by
    subst e
    exact s_bi1T b.gl b.mg b.nn b.nd hc (by rw [b.eq]; exact hv) hp ha
  rcases h with h | h
  · unfold bi1B at h
    simp only [List.mem_cons, List.not_mem_nil, or_false] at h
    rcases h with h | h | h | h | h
    · exact B _ h (b_len ok.K) (by decide +kernel)
    · exact B _ h (b_sum ok.K (ok.calm hh)) (by decide +kernel)
    · exact B _ h (b_max1 ok.K (ok.calm hh)) (by decide +kernel)
    · exact B _ h (b_min1 ok.K (ok.calm hh)) (by decide +kernel)
    · exact B _ h (b_sorted ok.K) (by decide +kernel)
  · unfold bi1T at h
    simp only [List.mem_cons, List.not_mem_nil, or_false] at h
    rcases h with h | h | h | h | h
    · exact T _ h (b_list ok.K) (by decide +kernel)
    · exact T _ h (b_tuple ok.K) (by decide +kernel)
    · exact T _ h b_dict (by decide +kernel)
    · exact T _ h b_int (by decide +kernel)
    · exact T _ h b_str (by decide +kernel)
mutual
theorem ck_e : ∀ (i : IE) {k : Ck} {X : Cx} {W : WX} {e : Expr}, CkOk k X c R → Takes X W → chkE k i e = true → SE X c W e (ev R i)
  | .var i, k, X, W, e, ok, tk, h => by
    unfold chkE at h
    split at h
    · simp only [Bool.and_eq_true, decide_eq_true_eq] at h
      obtain ⟨⟨h1, h2⟩, h3⟩ := h
      have hp := plainName_ok h3
      exact se_of rfl (s_var (by rw [ok.N]; exact h1) (by rw [ok.sc]; exact visC_ok h2) hp.1 hp.2.1)
    · cases h
  | .cst d, k, X, W, e, ok, tk, h => by
    unfold chkE at h
    split at h
    · rw [decide_eq_true_eq] at h
      subst h
      exact se_of rfl s_cst_int
    · rw [decide_eq_true_eq] at h
      subst h
      exact se_of rfl s_cst_bl
    · rw [decide_eq_true_eq] at h
      subst h
      exact se_of rfl s_cst_str
    · rw [decide_eq_true_eq] at h
      subst h
      exact se_of rfl s_cst_non
    · cases h
  | .bin op a b, k, X, W, e, ok, tk, h => by
    unfold chkE at h
    split at h
    · simp only [Bool.and_eq_true] at h
      exact se_of rfl (s_bin (binC_ok ok.K h.1.1) (ck_e a ok tk h.1.2).pe (ck_e b ok tk h.2).pe)
    · cases h
  | .neg a, k, X, W, e, ok, tk, h => by
    unfold chkE at h
    split at h
    · exact se_of rfl (s_neg (ck_e a ok tk h).pe)
    · cases h
  | .cmp op a b, k, X, W, e, ok, tk, h => by
    unfold chkE at h
    split at h
    · simp only [Bool.and_eq_true] at h
      have ho := cmpC_ok (X := X) (c := c) ok.K ok.un h.1.1.1
      have ha := (ck_e a ok tk h.1.2).pe
      have hb := (ck_e b ok tk h.2).pe
      exact ⟨s_cmp ho h.1.1.2 ha hb, t_cmp ho h.1.1.2 ha hb, fun op vs p e => by cases e⟩
    · cases h
  | .isN n a, k, X, W, e, ok, tk, h => by
    unfold chkE at h
    split at h
    · simp only [Bool.and_eq_true, Bool.not_eq_true'] at h
      obtain ⟨rfl, h⟩ := h
      have ha := (ck_e a ok tk h).pe
      exact ⟨s_isN ha, t_isN ha, fun op vs p e => by cases e⟩
    · simp only [Bool.and_eq_true] at h
      obtain ⟨rfl, h⟩ := h
      have ha := (ck_e a ok tk h).pe
      exact ⟨s_notN ha, t_notN ha, fun op vs p e => by cases e⟩
    · cases h
  | .isB n a b, k, X, W, e, ok, tk, h => by
    unfold chkE at h
    split at h
    · simp only [Bool.and_eq_true, Bool.not_eq_true', decide_eq_true_eq] at h
      obtain ⟨⟨rfl, rfl⟩, h⟩ := h
      have ha := (ck_e a ok tk h).pe
      exact ⟨s_isB ha, t_isB ha, fun op vs p e => by cases e⟩
    · simp only [Bool.and_eq_true, decide_eq_true_eq] at h
      obtain ⟨⟨rfl, rfl⟩, h⟩ := h
      have ha := (ck_e a ok tk h).pe
      exact ⟨s_notB ha, t_notB ha, fun op vs p e => by cases e⟩
    · cases h
  | .both a b, k, X, W, e, ok, tk, h => by
    unfold chkE at h
    split at h
    · rw [Bool.and_eq_true] at h
      exact s_both (ck_e a ok tk h.1) (and_last (ck_e b ok tk h.2))
    · rw [Bool.and_eq_true] at h
      exact s_both (ck_e a ok tk h.1) (ck_e b ok tk h.2)
    · cases h
  | .either a b, k, X, W, e, ok, tk, h => by
    unfold chkE at h
    split at h
    · rw [Bool.and_eq_true] at h
      exact s_either (ck_e a ok tk h.1) (or_last (ck_e b ok tk h.2))
    · rw [Bool.and_eq_true] at h
      exact s_either (ck_e a ok tk h.1) (ck_e b ok tk h.2)
    · cases h
  | .nott a, k, X, W, e, ok, tk, h => by
    unfold chkE at h
    split at h
    · exact s_not (ck_e a ok tk h)
    · cases h
  | .ife z a b, k, X, W, e, ok, tk, h => by
    unfold chkE at h
    split at h
    · simp only [Bool.and_eq_true] at h
      exact ⟨s_ife (ck_e z ok tk h.1.1).pt (ck_e a ok tk h.1.2).pe (ck_e b ok tk h.2).pe, t_ife (ck_e z ok tk h.1.1).pt (ck_e a ok tk h.1.2).pt (ck_e b ok tk h.2).pt, fun op vs p e => by cases e⟩
    · cases h
  | .tup es, k, X, W, e, ok, tk, h => by
    unfold chkE at h
    split at h
    · simp only [Bool.and_eq_true, decide_eq_true_eq] at h
      exact se_of rfl (s_tup (by omega) (ck_es es ok tk h.2))
    · cases h
  | .lst es, k, X, W, e, ok, tk, h => by
    unfold chkE at h
    split at h
    · simp only [Bool.and_eq_true, decide_eq_true_eq] at h
      exact se_of rfl (s_lst (by omega) (ck_es es ok tk h.2))
    · cases h
  | .idx a b, k, X, W, e, ok, tk, h => by
    unfold chkE at h
    split at h
    · simp only [Bool.and_eq_true] at h
      exact se_of rfl (s_idx ok.K ok.un h.1.1 (ck_e a ok tk h.1.2).pe (ck_e b ok tk h.2).pe)
    · cases h
  | .slc a lo hi, k, X, W, e, ok, tk, h => by
    unfold chkE at h
    split at h
    · simp only [Bool.and_eq_true] at h
      exact se_of rfl (s_slc ok.K (ck_e a ok tk h.1.1).pe (ck_o lo ok tk h.1.2) (ck_o hi ok tk h.2))
    · cases h
  | .call f es, k, X, W, e, ok, tk, h => by
    unfold chkE at h
    split at h
    · simp only [Bool.and_eq_true, decide_eq_true_eq, Bool.not_eq_true'] at h
      obtain ⟨⟨⟨⟨⟨⟨h0, h1⟩, h2⟩, h3⟩, h4⟩, h5⟩, h6⟩ := h
      obtain ⟨j, F, hr⟩ := ok.fn h0 f es.len (by simpa using h2)
      have hp := plainName_ok h4
      have hg := glC_ok ok h3
      subst h1
      exact se_of rfl (s_call F hr hg tk rfl (ck_es es ok tk h6) hp.1 h5)
    · cases h
  | .bi1 f a, k, X, W, e, ok, tk, h => by
    unfold chkE at h
    split at h
    · simp only [Bool.and_eq_true, Bool.not_eq_true'] at h
      exact se_of rfl (bi1_ok ok h.1.1.1.1 h.1.1.1.2 h.1.1.2 h.1.2 (ck_e a ok tk h.2).pe)
    · cases h
  | .bi2 f a b, k, X, W, e, ok, tk, h => by
    unfold chkE at h
    split at h
    · simp only [Bool.and_eq_true, Bool.or_eq_true, beq_iff_eq, Bool.not_eq_true'] at h
      obtain ⟨⟨⟨⟨⟨⟨h0, h1⟩, h2⟩, h3⟩, h4⟩, h5⟩, h6⟩ := h
      have b' := bltC_ok ok h1
      rcases h2 with h2 | h2
      · subst h2
        exact se_of rfl (s_bi2B b'.gl b'.mg b'.nn b'.nd (b_max2 (ok.calm h0)) (by rw [b'.eq]; decide +kernel) h3 (ck_e a ok tk h5).pe h4 (ck_e b ok tk h6).pe)
      · subst h2
        exact se_of rfl (s_bi2B b'.gl b'.mg b'.nn b'.nd (b_min2 (ok.calm h0)) (by rw [b'.eq]; decide +kernel) h3 (ck_e a ok tk h5).pe h4 (ck_e b ok tk h6).pe)
    · simp only [Bool.and_eq_true, decide_eq_true_eq, Bool.not_eq_true'] at h
      obtain ⟨⟨⟨⟨⟨⟨h0, h1⟩, h2⟩, h3⟩, h4⟩, h5⟩, h6⟩ := h
      have b' := bltC_ok ok h1
      subst h2
      subst h3
      exact se_of rfl (s_maxd b'.gl b'.mg b'.nn b'.nd ok.K (ok.calm h0) (by rw [b'.eq]; decide +kernel) h4 (ck_e a ok tk h5).pe (ck_e b ok tk h6).pe)
    · cases h
  | .bi3 f a b d, k, X, W, e, ok, tk, h => by
    unfold chkE at h
    split at h
    · simp only [Bool.and_eq_true, beq_iff_eq, Bool.not_eq_true'] at h
      obtain ⟨⟨⟨⟨⟨⟨⟨⟨h0, h1⟩, h2⟩, h3⟩, h4⟩, h5⟩, h6⟩, h7⟩, h8⟩ := h
      have b' := bltC_ok ok h1
      subst h2
      exact se_of rfl (s_bi3B b'.gl b'.mg b'.nn b'.nd (b_max3 (ok.calm h0)) (by rw [b'.eq]; decide +kernel) h3 (ck_e a ok tk h6).pe h4 (ck_e b ok tk h7).pe h5 (ck_e d ok tk h8).pe)
    · simp only [Bool.and_eq_true, decide_eq_true_eq, Bool.not_eq_true'] at h
      obtain ⟨⟨⟨⟨⟨⟨⟨⟨⟨h0, h1⟩, h2⟩, h3⟩, h4⟩, h5⟩, h6⟩, h7⟩, h8⟩, h9⟩ := h
      have b' := bltC_ok ok h1
      have b2 := bltC_ok ok h2
      obtain rfl := b'.eq
      obtain rfl := b2.eq
      subst h3
      exact se_of rfl (s_lzip ok.K (ok.calm h0) b'.gl b'.mg (by decide +kernel) b2.gl b2.mg h4 (ck_e a ok tk h7).pe h5 (ck_e b ok tk h8).pe h6 (ck_e d ok tk h9).pe)
    · cases h
  | .isi a one ts, k, X, W, e, ok, tk, h => by
    unfold chkE at h
    split at h
    · simp only [Bool.and_eq_true, decide_eq_true_eq, Bool.not_eq_true', Bool.or_eq_true] at h
      obtain ⟨⟨⟨⟨⟨⟨h1, h2⟩, h3⟩, h4⟩, h5⟩, h6⟩, h7⟩ := h
      have b' := bltC_ok ok h1
      have he := b'.eq
      have hg := b'.gl
      have hm := b'.mg
      subst he h3
      rcases h6 with h6 | h6
      · obtain ⟨ns, t1, t2, t3⟩ := tysC_ok ok h6
        exact se_of rfl (s_isiT ok.K hg hm t1 t2 (fun z => by subst z; exact h4 (List.length_eq_zero_iff.mp t3.symm)) (by omega) h2 (ck_e a ok tk h7).pe)
      · cases ts with
        | nil => exact absurd rfl h4
        | cons t0 ts => exact se_of rfl (s_isiET ok.ext ok.hotE hg hm (clsC_ok ok h6) h5 h2 (ck_e a ok tk h7).pe)
    · simp only [Bool.and_eq_true, Bool.or_eq_true] at h
      obtain ⟨⟨⟨⟨h1, h2⟩, h3⟩, h4⟩, h7⟩ := h
      have b' := bltC_ok ok h1
      have he := b'.eq
      have hg := b'.gl
      have hm := b'.mg
      subst he h3
      rcases h4 with h4 | h4
      · cases ts with
        | nil => cases h4
        | cons t ts =>
          cases ts with
          | cons t2 ts => unfold tysC at h4; unfold tysC at h4; rw [Bool.and_false] at h4; cases h4
          | nil =>
            unfold tysC at h4
            unfold tysC at h4
            rw [Bool.and_true] at h4
            unfold tyC at h4
            dsimp only at h4
            split at h4
            · rename_i n hn
              have b2 := bltC_ok ok h4
              exact se_of rfl (s_isi1 ok.K hg hm b2.gl b2.mg (by rw [b2.eq]; exact bootTy hn) b2.nn b2.nd hn h2 (ck_e a ok tk h7).pe)
            · cases h4
      · cases ts with
        | nil => cases h4
        | cons t ts =>
          cases ts with
          | cons t2 ts => unfold clsC at h4; unfold clsC at h4; rw [Bool.and_false] at h4; cases h4
          | nil =>
            unfold clsC at h4
            unfold clsC at h4
            rw [Bool.and_true] at h4
            exact se_of rfl (s_isiE1 ok.ext ok.hotE hg hm (clC_ok ok h4) h2 (ck_e a ok tk h7).pe)
    · cases h
  | .lc elt t it co own, k, X, W, e, ok, tk, h => by
    unfold chkE at h
    split at h
    · rename_i x tg iter ifs scope pos
      simp only [Bool.and_eq_true, Bool.not_eq_true'] at h
      obtain ⟨⟨⟨⟨⟨⟨⟨h0, h1⟩, h2⟩, h3⟩, h4⟩, h5⟩, h6⟩, h7⟩ := h
      have ho : ∀ i ∈ t.slots, i ∈ own := fun i hi => by
        rw [List.all_eq_true] at h1
        simpa using h1 i hi
      have hown : (own.map fun i => (k.N.getD i ⟨#[]⟩, i)).map (·.2) = own := by
        rw [List.map_map]
        exact List.map_id' own
      have hb : BlkOk X.N X.env.scope scope (own.map fun i => (k.N.getD i ⟨#[]⟩, i)) := by
        rw [ok.N, ok.sc]
        exact blkOk_by h3
      have pe := pe_lc (X := X) (pos := pos) (g := gT X.K t) (wi := tI c W (evi R it)) (tt := tC c WN (evc R co)) (te := tE c WN (ev R elt)) (ok.calm h0) (by rw [ok.N]; exact ok.nd) (ck_i it ok tk h4 (W := W)) hb (fun s H C cl fp => tgC_ok (ok.blk h0) (fun y hy => hy) h5) (fun s H C cl fp => ck_c co (ok.blk h0) takes0 h7) (fun s H C cl fp => (ck_e elt (ok.blk h0) takes0 h6).pe) (fun v => plain_fold h2 X.env v)
      rw [hown] at pe
      exact se_of rfl (pe.weak fun σ H Q q => lc_weak ok.K ho q)
    · cases h
  | .share a, k, X, W, e, ok, tk, h => by
    unfold chkE at h
    rw [Bool.and_eq_true] at h
    exact se_of h.1 (s_share (ck_e a ok tk h.2).pe)
  | .bad, k, X, W, e, ok, tk, h => ⟨⟨fun pins s σ H Q I q => by obtain ⟨_, _, _, _, _, p⟩ := q; exact p.elim⟩, ⟨fun pins s σ H Q I q => by obtain ⟨_, _, _, _, _, p⟩ := q; exact p.elim⟩, fun op vs pos he => ⟨fun wh pins s σ H Q I q => by obtain ⟨_, _, _, _, _, p⟩ := q; exact p.elim⟩⟩
  | .glob x d, k, X, W, e, ok, tk, h => by
    unfold chkE at h
    split at h
    · simp only [Bool.and_eq_true, decide_eq_true_eq] at h
      obtain ⟨⟨⟨rfl, h2⟩, h3⟩, h4⟩ := h
      exact se_of rfl (s_glob (glC_ok ok h3) (ok.glb x d (by simpa using h2)) (plainName_ok h4).1)
    · cases h
  | .chain op op2 a b d, k, X, W, e, ok, tk, h => by
    unfold chkE at h
    split at h
    · simp only [Bool.and_eq_true] at h
      obtain ⟨⟨⟨⟨⟨h1, h2⟩, h3⟩, h4⟩, h5⟩, h6⟩ := h
      exact s_chain (cmpC_ok ok.K ok.un h1) (cmpC_ok ok.K ok.un h2) h3 (ck_e a ok tk h4).pe (ck_e b ok tk h5).pe (ck_e d ok tk h6).pe
    · cases h
  | .chain3 op op2 op3 a b d d2, k, X, W, e, ok, tk, h => by
    unfold chkE at h
    split at h
    · simp only [Bool.and_eq_true] at h
      obtain ⟨⟨⟨⟨⟨⟨⟨h1, h2⟩, h3⟩, h4⟩, h5⟩, h6⟩, h7⟩, h8⟩ := h
      exact s_chain3 (cmpC_ok ok.K ok.un h1) (cmpC_ok ok.K ok.un h2) (cmpC_ok ok.K ok.un h3) h4 (ck_e a ok tk h5).pe (ck_e b ok tk h6).pe (ck_e d ok tk h7).pe (ck_e d2 ok tk h8).pe
    · cases h
  | .attr a f, k, X, W, e, ok, tk, h => by
    unfold chkE at h
    split at h
    · simp only [Bool.and_eq_true, decide_eq_true_eq] at h
      obtain ⟨⟨⟨rfl, h2⟩, h3⟩, h4⟩ := h
      have hf := ok.fld f (by simpa using h2)
      exact se_of rfl (s_attr ok.K (fun kk => (hf kk).1) (fun kk => (hf kk).2) h3 (ck_e a ok tk h4).pe)
    · cases h
  | .meth o C m es, k, X, W, e, ok, tk, h => by
    unfold chkE at h
    split at h
    · rename_i as _ _
      simp only [Bool.and_eq_true, decide_eq_true_eq, Bool.not_eq_true'] at h
      obtain ⟨⟨⟨⟨⟨⟨⟨⟨h0, h1⟩, h2⟩, h3⟩, h4⟩, h5⟩, h6⟩, h7⟩, h8⟩ := h
      obtain ⟨j, F, hr⟩ := ok.mt h0 C m _ (by simpa using h2)
      subst h1
      exact se_of rfl (s_meth F hr tk rfl h3 h4 h5 h6 (ck_e o ok tk h7).pe (ck_es es ok tk h8) (fun z => es_nil (by rw [← z]; exact h8)))
    · cases h
  | .new C es, k, X, W, e, ok, tk, h => by
    unfold chkE at h
    split at h
    · simp only [Bool.and_eq_true, decide_eq_true_eq, Bool.not_eq_true'] at h
      obtain ⟨⟨⟨⟨⟨⟨h0, h1⟩, h2⟩, h3⟩, h4⟩, h5⟩, h6⟩ := h
      obtain ⟨j, F, hr⟩ := ok.nw h0 C _ (by simpa using h2)
      have hg := glC_ok ok h3
      have hd := (plainName_ok h4).1
      subst h1
      exact se_of rfl (s_new F hr hg tk rfl hd h5 (ck_es es ok tk h6) (fun z => es_nil (by rw [← z]; exact h6)))
    · cases h
  | .bm1 m o a, k, X, W, e, ok, tk, h => by
    unfold chkE at h
    split at h
    · simp only [Bool.and_eq_true, decide_eq_true_eq] at h
      obtain ⟨⟨⟨⟨⟨⟨rfl, h2⟩, h3⟩, h4⟩, h5⟩, h6⟩, h7⟩ := h
      have ho := (ck_e o ok tk h6).pe
      have ha := (ck_e a ok tk h7).pe
      have hm : m ∈ bm1L := by simpa using h2
      unfold bm1L at hm
      simp only [List.mem_cons, List.not_mem_nil, or_false] at hm
      rcases hm with rfl | rfl | rfl | rfl
      · exact se_of rfl (s_bmL ok.K PySem.F.slot_list_index PySem.F.type_list_index (m_index ok.K) (.inl rfl) ho ha h3 h4 h5)
      · exact se_of rfl (s_bmL ok.K PySem.F.slot_list_count PySem.F.type_list_count (m_count ok.K) (.inr rfl) ho ha h3 h4 h5)
      · exact se_of rfl (s_bmS PySem.F.slot_str_join PySem.F.type_str_join (m_join ok.K) (by decide) ho ha h3 h4 h5)
      · exact se_of rfl (s_bmS PySem.F.slot_str_split PySem.F.type_str_split m_split (by decide) ho ha h3 h4 h5)
    · cases h
  | .bm2 m o a b, k, X, W, e, ok, tk, h => by
    unfold chkE at h
    split at h
    · simp only [Bool.and_eq_true, decide_eq_true_eq, beq_iff_eq] at h
      obtain ⟨⟨⟨⟨⟨⟨⟨⟨rfl, rfl⟩, h2⟩, h3⟩, h4⟩, h5⟩, h6⟩, h7⟩, h8⟩ := h
      exact se_of rfl (s_get ok.K (by have := ok.un; omega) (ck_e o ok tk h6).pe (ck_e a ok tk h7).pe (ck_e b ok tk h8).pe h2 h3 h4 (by simpa using h5))
    · cases h
  | .dct t ps, k, X, W, e, ok, tk, h => by
    unfold chkE at h
    split at h
    · simp only [Bool.and_eq_true, decide_eq_true_eq, Bool.not_eq_true'] at h
      obtain ⟨⟨ht, h1⟩, h2⟩ := h
      cases ps with
      | nil =>
        unfold chkPs at h2
        rw [Bool.and_eq_true, List.isEmpty_iff, List.isEmpty_iff] at h2
        obtain ⟨rfl, rfl⟩ := h2
        cases t with
        | false => exact se_of rfl s_dct0
        | true => exact se_of rfl s_dct0N
      | cons a b r =>
        have ht : t = false := by
          cases t with
          | false => rfl
          | true => simp [IPs.len] at ht
        subst ht
        obtain ⟨g1, g2, g3, g4⟩ := ps_len h2
        exact se_of rfl (s_dct (ck_ps (.cons a b r) ok tk h2) g1 g2 (g4 (by simp [IPs.len])) (by omega) h1)
    · cases h
  | .lrange a b, k, X, W, e, ok, tk, h => by
    unfold chkE at h
    split at h
    · simp only [Bool.and_eq_true, Bool.not_eq_true'] at h
      obtain ⟨⟨⟨⟨⟨⟨h0, h1⟩, h2⟩, h3⟩, h4⟩, h5⟩, h6⟩ := h
      have b1 := bltC_ok ok h1
      have b2 := bltC_ok ok h2
      have e1 := b1.eq
      have g1 := b1.gl
      have m1 := b1.mg
      have e2 := b2.eq
      have g2 := b2.gl
      have m2 := b2.mg
      subst e1 e2
      exact se_of rfl (s_lrange (ok.calm h0) g1 m1 g2 m2 h3 (ck_e a ok tk h5).pe h4 (ck_e b ok tk h6).pe)
    · cases h
  | .lam _ _, k, X, W, e, ok, tk, h => by
    unfold chkE at h
    cases h
  | .app a, k, X, W, e, ok, tk, h => by
    unfold chkE at h
    split at h
    · split at h
      · simp only [Bool.and_eq_true, decide_eq_true_eq] at h
        obtain ⟨⟨⟨h1, h2⟩, h3⟩, h4⟩ := h
        have hp := plainName_ok h4
        exact se_of rfl (s_lapp (by rw [ok.N]; exact h2) (by rw [ok.sc]; exact visC_ok h3) hp.1 hp.2.1 (ok.app h1) tk)
      · cases h
    · cases h
  | .lcall f g caps, k, X, W, e, ok, tk, h => by
    unfold chkE at h
    split at h
    · simp only [Bool.and_eq_true, decide_eq_true_eq, Bool.not_eq_true'] at h
      obtain ⟨⟨⟨⟨⟨⟨⟨h0, h1⟩, h2⟩, h3⟩, h4⟩, h5⟩, h6⟩, h7⟩ := h
      rename_i params body scope _ _
      have st := lamC0_ok (body := body) h6
      have hg := glC_ok ok h4
      have hp := plainName_ok h5
      obtain ⟨m1, m2⟩ := ok.mkr h1
      subst h2
      exact se_of rfl (s_lcall (T := ⟨capN k caps, params, body, scope⟩) (ok.lcb h0 f g ⟨capN k caps, params, body, scope⟩ (by simpa using h3) h7 st.ok) m1 m2 hg hp.1 st.ok (by rw [st.args]; rfl) (fun y hy e => by rw [ok.sc]; exact st.free y hy e) st.len (fun j y hj => by rw [ok.N]; exact st.at_ j y hj))
    · cases h
theorem ck_ps : ∀ (ps : IPs) {k : Ck} {X : Cx} {W : WX} {pos : Pos} {ks : List (Option Expr)} {vs : List Expr}, CkOk k X c R → Takes X W → chkPs k ps ks vs = true → PPs X pos ks vs (ptr c W R ps)
  | .nil, k, X, W, pos, ks, vs, ok, tk, h => by
    unfold chkPs at h
    rw [Bool.and_eq_true, List.isEmpty_iff, List.isEmpty_iff] at h
    obtain ⟨rfl, rfl⟩ := h
    exact pps_nil
  | .cons a b r, k, X, W, pos, ks, vs, ok, tk, h => by
    unfold chkPs at h
    split at h
    · split at h
      · simp only [Bool.and_eq_true] at h
        exact pps_cons (ck_e a ok tk h.1.1).pe (ck_e b ok tk h.1.2).pe (ck_ps r ok tk h.2)
      · cases h
    · cases h
theorem ck_es : ∀ (es : IEs) {k : Ck} {X : Cx} {W : WX} {as : List Expr}, CkOk k X c R → Takes X W → chkEs k es as = true → PA X as (tA c W (evs R es))
  | .nil, k, X, W, as, ok, tk, h => by
    unfold chkEs at h
    rw [List.isEmpty_iff] at h
    subst h
    exact s_nil
  | .cons a r, k, X, W, as, ok, tk, h => by
    unfold chkEs at h
    split at h
    · simp only [Bool.and_eq_true] at h
      exact s_cons h.1.1 (ck_e a ok tk h.1.2).pe (ck_es r ok tk h.2)
    · cases h
theorem ck_o : ∀ (o : IO) {k : Ck} {X : Cx} {W : WX} {a : Option Expr}, CkOk k X c R → Takes X W → chkO k o a = true → PO X a (tO c W (evo R o))
  | .no, k, X, W, a, ok, tk, h => by
    unfold chkO at h
    rw [Option.isNone_iff_eq_none] at h
    subst h
    exact s_no
  | .yes a, k, X, W, o, ok, tk, h => by
    unfold chkO at h
    split at h
    · exact s_yes (ck_e a ok tk h).pe
    · cases h
theorem ck_c : ∀ (o : IO) {k : Ck} {X : Cx} {a : List Expr}, CkOk k X c R → Takes X WN → chkC k o a = true → PTs X a (tC c WN (evc R o))
  | .no, k, X, a, ok, tk, h => by
    unfold chkC at h
    rw [List.isEmpty_iff] at h
    subst h
    exact s_ifs0
  | .yes a, k, X, o, ok, tk, h => by
    unfold chkC at h
    split at h
    · exact s_ifs1 (ck_e a ok tk h).pt
    · cases h
theorem ck_i : ∀ (i : OI.It) {k : Ck} {X : Cx} {W : WX} {tg a : Expr}, CkOk k X c R → Takes X W → chkI k i tg a = true → PI X tg a (tI c W (evi R i))
  | .of a, k, X, W, tg, e, ok, tk, h => by
    unfold chkI at h
    exact s_of ok.K (ck_e a ok tk h).pe
  | .rng1 a, k, X, W, tg, e, ok, tk, h => by
    unfold chkI at h
    split at h
    · simp only [Bool.and_eq_true] at h
      have b' := bltC_ok ok h.1.1
      have he := b'.eq
      have hg := b'.gl
      have hm := b'.mg
      subst he
      exact s_rng1 hg hm h.1.2 (ck_e a ok tk h.2).pe
    · cases h
  | .rng2 a b, k, X, W, tg, e, ok, tk, h => by
    unfold chkI at h
    split at h
    · simp only [Bool.and_eq_true] at h
      have b' := bltC_ok ok h.1.1.1.1
      have he := b'.eq
      have hg := b'.gl
      have hm := b'.mg
      subst he
      exact s_rng2 hg hm h.1.1.1.2 (ck_e a ok tk h.1.2).pe h.1.1.2 (ck_e b ok tk h.2).pe
    · cases h
  | .rng3 a b d, k, X, W, tg, e, ok, tk, h => by
    unfold chkI at h
    split at h
    · simp only [Bool.and_eq_true] at h
      obtain ⟨⟨⟨⟨⟨⟨h1, h2⟩, h3⟩, h4⟩, h5⟩, h6⟩, h7⟩ := h
      have b' := bltC_ok ok h1
      have he := b'.eq
      have hg := b'.gl
      have hm := b'.mg
      subst he
      exact s_rng3 hg hm h2 (ck_e a ok tk h5).pe h3 (ck_e b ok tk h6).pe h4 (ck_e d ok tk h7).pe
    · cases h
  | .zip a b, k, X, W, tg, e, ok, tk, h => by
    unfold chkI at h
    split at h
    · split at h
      · simp only [Bool.and_eq_true] at h
        obtain ⟨⟨⟨⟨h1, h2⟩, h3⟩, h4⟩, h5⟩ := h
        have b' := bltC_ok ok h1
        have he := b'.eq
        have hg := b'.gl
        have hm := b'.mg
        subst he
        exact s_zip ok.K hg hm h2 (ck_e a ok tk h4).pe h3 (ck_e b ok tk h5).pe
      · cases h
    · cases h
end
end
end OI

/-! OIw: whether a text of mine is the text of the row: statements. -/
namespace OI
open PySem PySem.Spec PyProof.Rows L2

/-- none of the comprehensions -/
def plainV : Expr → Bool
  | .ListComp _ _ _ _ => false
  | .SetComp _ _ _ _ => false
  | .DictComp _ _ _ _ _ => false
  | _ => true
theorem plainV_ok {a : Expr} (h : plainV a = true) (t : Option Expr) (l : Nat) (env : PySem.Env) : swapsWith a t l env = pure false := by
  cases a <;> first | rfl | cases h
def notTup : Expr → Bool
  | .Tuple _ _ _ => false
  | .List _ _ => false
  | _ => true
theorem notTup_ok {t a : Expr} (h : notTup t = true ∨ notTup a = true) (env : PySem.Env) : swappedStores [t] a env = pure none := by
  unfold swappedStores
  cases t <;> cases a <;> first | rfl | (rcases h with h | h <;> cases h)
/-- a comprehension that is stored at once -/
def swapB (sc : Scope) (value tg : Expr) : Bool := match value with
  | .ListComp _ _ s _ => match tg with
    | .Name t pos => sc.names.lookup t == some .local && pos.line == value.pos.line && !(s.names.any fun (n, k) => n == t && (k == .local || k == .cell))
    | _ => false
  | _ => false
theorem swapB_ok {value tg : Expr} {env : PySem.Env} {l : Nat} (hk : env.blockKind = .function) (h1 : ∀ a b c d, value ≠ .SetComp a b c d) (h2 : ∀ a b c d e, value ≠ .DictComp a b c d e) : swapsWith value (some tg) l env = pure (swapB env.scope value tg) := by
  cases value with
  | ListComp a b c d =>
    cases tg with
    | Name t pos =>
      show (do pure (env.blockKind == .function && env.kindOf t == some .local && pos.line == (Expr.ListComp a b c d).pos.line && !(c.names.any fun (n, k) => n == t && (k == .local || k == .cell))) : Sem Bool) = _
      rw [hk]
      rfl
    | _ => rfl
  | SetComp a b c d => exact absurd rfl (h1 a b c d)
  | DictComp a b c d e => exact absurd rfl (h2 a b c d e)
  | _ => rfl
def noSD : Expr → Bool
  | .SetComp _ _ _ _ => false
  | .DictComp _ _ _ _ _ => false
  | _ => true
theorem assign_sub {o i : Expr} {tpos : Pos} (h : plainE i = true) (env : PySem.Env) (v : Value) : assign (.Subscript o i tpos) env v = (do
      let ov ← holding [v] (eval o env)
      let iv ← holding [v, ov] (eval i env)
      standAt tpos
      holding [v, ov, iv] (PySem.setItem ov iv v)
      release [v, ov, iv] []) := by
  cases i <;> first | rfl | cases h
def fnT : Str → Bool := fun _ => true

/-- in an except suite -/
def Ck.suite (k : Ck) : Ck := { k with hot := true, app := false, mak := false }
mutual
def chkS (k : Ck) : IS → Stmt → Bool
  | .asg t e, st => match st with
    | .Assign [tg] v _ => tgC k fnT t tg && noSD v && (notTup tg || notTup v) && chkE k e v
    | _ => false
  | .setI o i a, st => match st with
    | .Assign [.Subscript x y _] v _ => plainV v && plainE y && chkE k o x && chkE k i y && chkE k a v
    | _ => false
  | .pop t o, st => match st with
    | .Assign [tg] (.Call (.Attribute x fx ap) [] [] cp) _ => decide (fx = Str.ofString "pop") && tgC k fnT (.one t) tg && plainE x && (ap.endLine == cp.line) && chkE k o x
    | _ => false
  | .ret e, st => match st with
    | .Return (some v) _ => chkE k e v
    | _ => false
  | .ifs c a b, st => match st with
    | .If z x y _ => chkE k c z && chkSs k a x && chkSs k b y
    | _ => false
  | .expr e, st => match st with
    | .Expr v _ => plainV v && chkE k e v
    | _ => false
  | .mut0 f o, st => match st with
    | .Expr (.Call (.Attribute x fx ap) [] [] cp) _ => decide (fx = Str.ofString f) && (f == "clear" || f == "reverse") && plainE x && (ap.endLine == cp.line) && chkE k o x
    | _ => false
  | .mut1 f o a, st => match st with
    | .Expr (.Call (.Attribute x fx ap) [y] [] cp) _ => decide (fx = Str.ofString f) && (f == "append" || f == "extend" || f == "update") && plainE x && plainE y && (ap.endLine == cp.line) && chkE k o x && chkE k a y
    | _ => false
  | .fors t it b, st => match st with
    | .For tg iter body [] _ => !k.hot && plainE iter && tgC k fnT t tg && chkI k it tg iter && chkSs k b body
    | _ => false
  | .whil c b, st => match st with
    | .While z body [] _ => !k.hot && chkE k c z && chkSs k b body
    | _ => false
  | .pass, st => match st with
    | .Pass _ => true
    | _ => false
  | .bad, _ => true
  | .setA o f a, st => match st with
    | .Assign [.Attribute x fx _] v _ => decide (fx = Str.ofString f) && k.T.flds.contains f && noSD v && chkE k o x && chkE k a v
    | _ => false
  | .rais s, st => match st with
    | .Raise (some (.Call (.Name x _) [.Constant (.str _) _ _] [] _)) none _ => !k.hot && decide (x = Str.ofString s) && k.T.exs.contains s && glC k.sc x && plainName x
    | _ => false
  | .tryA b ks s i h, st => match st with
    | .Try body [.ExceptHandler (some (.Name x _)) (some nm) (b0 :: suite) _] [] [] _ => !k.hot && decide (x = Str.ofString s) && glC k.sc x && plainName x && decide (k.N[i]? = some nm) && decide (k.sc.names.lookup nm = some .local) && (ks.all fun y => k.T.exs.contains y) && ks.contains s && chkSs k b body && chkSs k.suite h (b0 :: suite)
    | _ => false
  | .tryM b ks hs, st => match st with
    | .Try body (h0 :: hds) [] [] _ => !k.hot && (ks.all fun y => k.T.exs.contains y) && (hs.cls.all fun y => ks.contains y) && chkSs k b body && chkH k.suite hs (h0 :: hds)
    | _ => false
def chkH (k : Ck) : IHs → List ExceptHandler → Bool
  | .nil, hs => hs.isEmpty
  | .cons d b r, hs => match hs with
    | .ExceptHandler (some (.Name x _)) none (b0 :: suite) _ :: hds => decide (x = Str.ofString d) && glC k.sc x && plainName x && chkSs k b (b0 :: suite) && chkH k r hds
    | _ => false
def chkSs (k : Ck) : ISs → List Stmt → Bool
  | .nil, ss => ss.isEmpty
  | .cons a r, ss => match ss with
    | x :: xs => chkS k a x && chkSs k r xs
    | [] => false
end
structure StOk (k : Ck) (X : Cx) (c : Cn) (R : Runs) (W : WX) : Prop extends CkOk k X c R where
  own : k.hot = false → PassesOwn (model X.prog X.w) X.A X.env X.xe
  stk : X.stack = X.env :: X.outer
  frm : X.env.frame = some X.env.locals
  fnT : ∀ x, X.fn x = true
  kind : X.env.blockKind = .function
  tk : Takes X W
section
variable {k : Ck} {X : Cx} {c : Cn} {R : Runs} {W : WX} {n : Nat}
theorem setLc (ok : StOk k X c R W) {t : Tg} {y : Str} {py pos lpos : Pos} {i : Nat} {x : Expr} {gens : List Comprehension} {scope : Scope} (hi : k.N[i]? = some y) (hl : X.env.scope.names.lookup y = some .local) (hsw : swapsWith (.ListComp x gens scope lpos) (some (.Name y py)) pos.line X.env = pure true) :
    ∀ e : IE, chkE k e (.ListComp x gens scope lpos) = true → PS X (.Assign [.Name y py] (.ListComp x gens scope lpos) pos) (tAsg (tE c W (ev R e)) (gName i))
  | .lc elt t it co own, h4 => by
    unfold chkE at h4
    split at h4
    · rename_i x tg iter ifs scope pos' heq
      cases heq
      simp only [Bool.and_eq_true, Bool.not_eq_true'] at h4
      obtain ⟨⟨⟨⟨⟨⟨⟨g0, g1⟩, g2⟩, g3⟩, g4⟩, g5⟩, g6⟩, g7⟩ := h4
      have ho : ∀ i ∈ t.slots, i ∈ own := fun i hi => by
        rw [List.all_eq_true] at g1
        simpa using g1 i hi
      have hown : (own.map fun i => (k.N.getD i ⟨#[]⟩, i)).map (·.2) = own := by
        rw [List.map_map]
        exact List.map_id' own
      have hbk : BlkOk X.N X.env.scope scope (own.map fun i => (k.N.getD i ⟨#[]⟩, i)) := by
        rw [ok.N, ok.sc]
        exact blkOk_by g3
      have ps := ps_setLc (X := X) (pos := lpos) (spos := pos) (py := py) (i := i) (y := y) (g := gT X.K t) (wi := tI c W (evi R it)) (tt := tC c WN (evc R co)) (te := tE c WN (ev R elt)) (ok.calm g0) (by rw [ok.N]; exact ok.nd) (by rw [ok.N]; exact hi) hl hsw
        (ck_i it ok.toCkOk ok.tk g4 (W := W)) hbk (fun s H C cl fp => tgC_ok (ok.blk g0) (fun y hy => hy) g5) (fun s H C cl fp => ck_c co (ok.blk g0) takes0 g7) (fun s H C cl fp => (ck_e elt (ok.blk g0) takes0 g6).pe) (fun v => plain_fold g2 X.env v)
      rw [hown] at ps
      exact ps.weak fun D σ H q => lc_weak ok.K ho q
    · cases h4
  | .share a, h4 => by
    unfold chkE at h4
    rw [Bool.and_eq_true] at h4
    exact (setLc ok hi hl hsw (t := t) a h4.2).weak fun D σ H q => share_weak q
  | .var _, h => by
    unfold chkE at h
    cases h
  | .cst _, h => by
    unfold chkE at h
    cases h
  | .glob _ _, h => by
    unfold chkE at h
    cases h
  | .bin _ _ _, h => by
    unfold chkE at h
    cases h
  | .neg _, h => by
    unfold chkE at h
    cases h
  | .cmp _ _ _, h => by
    unfold chkE at h
    cases h
  | .chain _ _ _ _ _, h => by
    unfold chkE at h
    cases h
  | .isN _ _, h => by
    unfold chkE at h
    cases h
  | .isB _ _ _, h => by
    unfold chkE at h
    cases h
  | .both _ _, h => by
    unfold chkE at h
    cases h
  | .either _ _, h => by
    unfold chkE at h
    cases h
  | .nott _, h => by
    unfold chkE at h
    cases h
  | .ife _ _ _, h => by
    unfold chkE at h
    cases h
  | .tup _, h => by
    unfold chkE at h
    cases h
  | .lst _, h => by
    unfold chkE at h
    cases h
  | .dct _ _, h => by
    unfold chkE at h
    cases h
  | .idx _ _, h => by
    unfold chkE at h
    cases h
  | .slc _ _ _, h => by
    unfold chkE at h
    cases h
  | .attr _ _, h => by
    unfold chkE at h
    cases h
  | .call _ _, h => by
    unfold chkE at h
    cases h
  | .new _ _, h => by
    unfold chkE at h
    cases h
  | .meth _ _ _ _, h => by
    unfold chkE at h
    cases h
  | .bi1 _ _, h => by
    unfold chkE at h
    cases h
  | .bi2 _ _ _, h => by
    unfold chkE at h
    cases h
  | .bi3 _ _ _ _, h => by
    unfold chkE at h
    cases h
  | .bm1 _ _ _, h => by
    unfold chkE at h
    cases h
  | .bm2 _ _ _ _, h => by
    unfold chkE at h
    cases h
  | .isi _ _ _, h => by
    unfold chkE at h
    cases h
  | .lrange _ _, h => by
    unfold chkE at h
    cases h
  | .lam _ _, h => by
    unfold chkE at h
    cases h
  | .app _, h => by
    unfold chkE at h
    cases h
  | .lcall _ _ _, h => by
    unfold chkE at h
    cases h
  | .chain3 _ _ _ _ _ _ _, h => by
    unfold chkE at h
    cases h
  | .bad, h => ⟨fun pins s σ H D I q => by obtain ⟨_, _, _, _, _, p⟩ := q; exact p.elim⟩
theorem asg_ok (ok : StOk k X c R W) {t : Tg} {e : IE} {tg v : Expr} {pos : Pos} (h1 : tgC k fnT t tg = true) (h2 : noSD v = true) (h3 : (notTup tg || notTup v) = true) (h4 : chkE k e v = true) :
    PS X (.Assign [tg] v pos) (tAsg (tE c W (ev R e)) (gT X.K t)) := by
  have hg := tgC_ok ok.toCkOk (fun x _ => ok.fnT x) h1
  have he := (ck_e e ok.toCkOk ok.tk h4).pe
  have hsw : swapsWith v (some tg) pos.line X.env = pure (swapB k.sc v tg) := by
    rw [← ok.sc]
    exact swapB_ok ok.kind (fun a b c d e => by subst e; cases h2) (fun a b c d e z => by subst z; cases h2)
  have ht : swappedStores [tg] v X.env = pure none := notTup_ok (by rw [Bool.or_eq_true] at h3; exact h3) X.env
  have hlen : (assignEach [tg] X.env).map (·.2) = [assign tg X.env] := by
    cases tg <;> first | rfl | (cases t <;> cases h1)
  cases hb : swapB k.sc v tg with
  | false =>
    rw [hb] at hsw
    exact ps_asg he hg hsw ht hlen
  | true =>
    rw [hb] at hsw
    unfold swapB at hb
    split at hb
    · split at hb
      · rename_i y py
        cases t with
        | many is => cases h1
        | one i =>
          simp only [Bool.and_eq_true, beq_iff_eq] at hb
          have hl := hb.1.1
          rw [← ok.sc] at hl
          have h1 : tg1C k fnT i (.Name y py) = true := h1
          unfold tg1C at h1
          dsimp only at h1
          rw [Bool.and_eq_true, decide_eq_true_eq] at h1
          exact setLc ok (t := .one i) h1.1 hl hsw e h4
      · cases hb
    · cases hb
theorem asg_okG (ok : StOk k X c R W) {t : Tg} {tg v : Expr} {pos : Pos} {te : TE} (h1 : tgC k fnT t tg = true) (h2 : noSD v = true) (h3 : (notTup tg || notTup v) = true) (h5 : (∃ x p a q, v = .Call x p a q)) (he : PE X v te) :
    PS X (.Assign [tg] v pos) (tAsg te (gT X.K t)) := by
  have hg := tgC_ok ok.toCkOk (fun x _ => ok.fnT x) h1
  have hsw : swapsWith v (some tg) pos.line X.env = pure (swapB k.sc v tg) := by
    rw [← ok.sc]
    exact swapB_ok ok.kind (fun a b c d e => by subst e; cases h2) (fun a b c d e z => by subst z; cases h2)
  have ht : swappedStores [tg] v X.env = pure none := notTup_ok (by rw [Bool.or_eq_true] at h3; exact h3) X.env
  have hlen : (assignEach [tg] X.env).map (·.2) = [assign tg X.env] := by
    cases tg <;> first | rfl | (cases t <;> cases h1)
  cases hb : swapB k.sc v tg with
  | false =>
    rw [hb] at hsw
    exact ps_asg he hg hsw ht hlen
  | true =>
    obtain ⟨x, p, a, q, rfl⟩ := h5
    unfold swapB at hb
    cases hb
/-- a try's body -/
theorem StOk.try (ok : StOk k X c R W) (h0 : k.hot = false) {W' : WX} {pn : List (Addr × Obj)} {xe : Value → Shared → Prop} (tk : Takes (X.tr pn xe) W') (own : PassesOwn (model X.prog X.w) X.A X.env xe) : StOk k (X.tr pn xe) c R W' where
  N := ok.N
  nd := ok.nd
  sc := ok.sc
  K := ok.K
  calm := ok.calm
  un := ok.un
  fn := fun hh f np h => by
    obtain ⟨j, ⟨hF⟩, hr⟩ := ok.fn hh f np h
    exact ⟨j, ⟨hF⟩, hr⟩
  mt := fun hh C m np h => by
    obtain ⟨j, ⟨h1, hF⟩, hr⟩ := ok.mt hh C m np h
    exact ⟨j, ⟨h1, hF⟩, hr⟩
  nw := fun hh C np h => by
    obtain ⟨j, ⟨h1, hF⟩, hr⟩ := ok.nw hh C np h
    exact ⟨j, ⟨h1, hF⟩, hr⟩
  blt := ok.blt
  fld := ok.fld
  ext := ⟨fun k hk => let e := ok.ext.ex k hk; ⟨e.mg, e.kp, e.xc, e.sb, e.ve, e.ty, e.is⟩, ok.ext.sub⟩
  glb := ok.glb
  hotE := fun a k h => by rw [ok.ex0 h0] at h; cases h
  ex0 := ok.ex0
  app := ok.app
  mkr := ok.mkr
  lcb := ok.lcb
  own := fun _ => own
  stk := ok.stk
  frm := ok.frm
  fnT := ok.fnT
  kind := ok.kind
  tk := tk
/-- an except suite that holds an exception of the class kk -/
theorem StOk.suite (ok : StOk k X c R W) (hx : c.exn = none) {a : Addr} {oe : Obj} {kk : String} {pn : List (Addr × Obj)} (hk : kk ∈ k.T.exs) (hz : Zc (.ref (c.cls kk)) none oe) (hf : ∃ vs, oe.data = .fields vs) : StOk k.suite (X.suite a ((a, oe) :: pn)) (c.ex a kk) R WN where
  N := ok.N
  nd := ok.nd
  sc := ok.sc
  K := ok.K
  calm := fun h => by cases h
  un := ok.un
  fn := fun h => by cases h
  mt := fun h => by cases h
  nw := fun h => by cases h
  blt := ok.blt
  fld := ok.fld
  ext := ⟨fun k hk => let e := ok.ext.ex k hk; ⟨e.mg, e.kp, e.xc, e.sb, e.ve, e.ty, e.is⟩, ok.ext.sub⟩
  glb := fun x d h => by
    obtain ⟨v, u, h1, h2, h3⟩ := ok.glb x d h
    exact ⟨v, u, h1, h2, fun S => RepD.ex hx (h3 S)⟩
  hotE := fun a' k' h => by
    have h : some (a, kk) = some (a', k') := h
    cases h
    exact ⟨hk, call_isE (ok.ext.ex kk hk).is hz hf, call_isET (ok.ext.ex kk hk).is hz hf⟩
  ex0 := fun h => by cases h
  app := fun h => by cases h
  mkr := fun h => by cases h
  lcb := fun h => by cases h
  own := fun h => by cases h
  stk := ok.stk
  frm := ok.frm
  fnT := ok.fnT
  kind := ok.kind
  tk := takes0
/-- one that holds it by no name -/
theorem StOk.suite0 (ok : StOk k X c R W) (hx : c.exn = none) {a : Addr} {oe : Obj} {cls : Value} {dd : Option Addr} {pn : List (Addr × Obj)} (hz : Zc cls dd oe) (hf : ∃ vs, oe.data = .fields vs) : StOk k.suite (X.suite a ((a, oe) :: pn)) c R WN where
  N := ok.N
  nd := ok.nd
  sc := ok.sc
  K := ok.K
  calm := fun h => by cases h
  un := ok.un
  fn := fun h => by cases h
  mt := fun h => by cases h
  nw := fun h => by cases h
  blt := ok.blt
  fld := ok.fld
  ext := ⟨fun k hk => let e := ok.ext.ex k hk; ⟨e.mg, e.kp, e.xc, e.sb, e.ve, e.ty, e.is⟩, ok.ext.sub⟩
  glb := ok.glb
  hotE := fun a' k' h => by rw [hx] at h; cases h
  ex0 := fun h => by cases h
  app := fun h => by cases h
  mkr := fun h => by cases h
  lcb := fun h => by cases h
  own := fun h => by cases h
  stk := ok.stk
  frm := ok.frm
  fnT := ok.fnT
  kind := ok.kind
  tk := takes0
mutual
theorem ck_s : ∀ (i : IS) {k : Ck} {X : Cx} {c : Cn} {W : WX} {ws : List Nat} {st : Stmt}, StOk k X c R W → (∀ j ∈ wr i, j ∈ ws) → chkS k i st = true → PS X st (tS c W ws (exec R n i))
  | .asg t e, k, X, c, W, ws, st, ok, hw, h => by
    unfold chkS at h
    split at h
    · simp only [Bool.and_eq_true] at h
      obtain ⟨⟨⟨h1, h2⟩, h3⟩, h4⟩ := h
      exact s_asg ok.K hw (asg_ok ok h1 h2 h3 h4)
    · cases h
  | .setI o i a, k, X, c, W, ws, st, ok, hw, h => by
    unfold chkS at h
    split at h
    · simp only [Bool.and_eq_true] at h
      obtain ⟨⟨⟨⟨h1, h2⟩, h3⟩, h4⟩, h5⟩ := h
      exact s_setI ok.K (by have := ok.un; omega) hw (fun l => by unfold swapsWithSole; exact plainV_ok h1 _ l X.env) (notTup_ok (.inl rfl) X.env) (ck_e a ok.toCkOk ok.tk h5).pe (ck_e o ok.toCkOk ok.tk h3).pe (ck_e i ok.toCkOk ok.tk h4).pe fun v => assign_sub h2 X.env v
    · cases h
  | .ret e, k, X, c, W, ws, st, ok, hw, h => by
    unfold chkS at h
    split at h
    · exact s_ret (ck_e e ok.toCkOk ok.tk h).pe
    · cases h
  | .ifs z a b, k, X, c, W, ws, st, ok, hw, h => by
    unfold chkS at h
    split at h
    · simp only [Bool.and_eq_true] at h
      exact s_ifs (ck_e z ok.toCkOk ok.tk h.1.1).pt (ck_ss a ok (fun j hj => hw j (List.mem_append_left _ hj)) h.1.2) (ck_ss b ok (fun j hj => hw j (List.mem_append_right _ hj)) h.2)
    · cases h
  | .expr e, k, X, c, W, ws, st, ok, hw, h => by
    unfold chkS at h
    split at h
    · simp only [Bool.and_eq_true] at h
      exact s_expr (fun l => plainV_ok h.1 _ l X.env) (ck_e e ok.toCkOk ok.tk h.2).pe
    · cases h
  | .mut0 f o, k, X, c, W, ws, st, ok, hw, h => by
    unfold chkS at h
    split at h
    · simp only [Bool.and_eq_true, decide_eq_true_eq, Bool.or_eq_true, beq_iff_eq] at h
      obtain ⟨⟨⟨⟨h1, h2⟩, h3⟩, h4⟩, h5⟩ := h
      have ho := (ck_e o ok.toCkOk ok.tk h5).pe
      subst h1
      rcases h2 with rfl | rfl
      · exact s_app0 ok.K PySem.F.slot_list_clear PySem.F.type_list_clear mt_clear hw r_clear ho h3 (by simpa using h4)
      · exact s_app0 ok.K PySem.F.slot_list_reverse PySem.F.type_list_reverse mt_reverse hw r_reverse ho h3 (by simpa using h4)
    · cases h
  | .mut1 f o a, k, X, c, W, ws, st, ok, hw, h => by
    unfold chkS at h
    split at h
    · simp only [Bool.and_eq_true, decide_eq_true_eq, Bool.or_eq_true, beq_iff_eq] at h
      obtain ⟨⟨⟨⟨⟨⟨h1, h2⟩, h3⟩, h4⟩, h5⟩, h6⟩, h7⟩ := h
      have ho := (ck_e o ok.toCkOk ok.tk h6).pe
      have ha := (ck_e a ok.toCkOk ok.tk h7).pe
      subst h1
      rcases h2 with (rfl | rfl) | rfl
      · exact s_app ok.K PySem.F.slot_list_append PySem.F.type_list_append mt_append (by decide) hw r_append ho ha h3 h4 (by simpa using h5)
      · exact s_app ok.K PySem.F.slot_list_extend PySem.F.type_list_extend mt_extend (by decide) hw r_extend ho ha h3 h4 (by simpa using h5)
      · exact s_upd hw ho ha h3 h4 (by simpa using h5)
    · cases h
  | .fors t it b, k, X, c, W, ws, st, ok, hw, h => by
    unfold chkS at h
    split at h
    · simp only [Bool.and_eq_true, Bool.not_eq_true'] at h
      obtain ⟨⟨⟨⟨h0, h1⟩, h2⟩, h3⟩, h4⟩ := h
      exact s_for ok.K (ok.own h0) (ok.calm h0) (ck_i it ok.toCkOk ok.tk h3) (tgC_ok ok.toCkOk (fun x _ => ok.fnT x) h2) hw (ck_ss b ok (fun j hj => List.mem_append_right _ hj) h4) (fun v => plain_fold h1 X.env v)
    · cases h
  | .whil z b, k, X, c, W, ws, st, ok, hw, h => by
    unfold chkS at h
    split at h
    · simp only [Bool.and_eq_true, Bool.not_eq_true'] at h
      exact s_while (ok.own h.1.1) (ck_e z ok.toCkOk ok.tk h.1.2).pt (ck_ss b ok hw h.2)
    · cases h
  | .pass, k, X, c, W, ws, st, ok, hw, h => by
    unfold chkS at h
    split at h
    · exact s_pass
    · cases h
  | .pop t o, k, X, c, W, ws, st, ok, hw, h => by
    unfold chkS at h
    split at h
    · simp only [Bool.and_eq_true, decide_eq_true_eq] at h
      obtain ⟨⟨⟨⟨rfl, h1⟩, h2⟩, h3⟩, h4⟩ := h
      exact s_pop hw h2 h3 ok.K (ck_e o ok.toCkOk ok.tk h4).pe fun he => asg_okG (t := .one t) ok h1 rfl (by simp [notTup]) ⟨_, _, _, _, rfl⟩ he
    · cases h
  | .bad, k, X, c, W, ws, st, ok, hw, h => ⟨fun pins s σ H D I q => by obtain ⟨_, _, _, _, _, p⟩ := q; exact p.elim⟩
  | .setA o f a, k, X, c, W, ws, st, ok, hw, h => by
    unfold chkS at h
    split at h
    · simp only [Bool.and_eq_true, decide_eq_true_eq] at h
      obtain ⟨⟨⟨⟨rfl, h2⟩, h3⟩, h4⟩, h5⟩ := h
      have hf := ok.fld f (by simpa using h2)
      exact s_setA (fun kk => (hf kk).1) (fun kk => (hf kk).2) (by
        rw [swapB_ok ok.kind (fun a b c d e => by subst e; cases h3) (fun a b c d e z => by subst z; cases h3)]
        unfold swapB
        split <;> rfl) (ck_e o ok.toCkOk ok.tk h4).pe (ck_e a ok.toCkOk ok.tk h5).pe
    · cases h
  | .rais s, k, X, c, W, ws, st, ok, hw, h => by
    unfold chkS at h
    split at h
    · simp only [Bool.and_eq_true, decide_eq_true_eq, Bool.not_eq_true'] at h
      obtain ⟨⟨⟨⟨h0, rfl⟩, h2⟩, h3⟩, h4⟩ := h
      exact s_rais (m := "") (ok.calm h0) ok.tk (ok.ext.ex s (by simpa using h2)) (glC_ok ok.toCkOk h3) (plainName_ok h4).1
    · cases h
  | .tryA b ks s i h, k, X, c, W, ws, st, ok, hw, hh => by
    unfold chkS at hh
    split at hh
    · simp only [Bool.and_eq_true, decide_eq_true_eq, Bool.not_eq_true'] at hh
      obtain ⟨⟨⟨⟨⟨⟨⟨⟨⟨h0, rfl⟩, h2⟩, h3⟩, h4⟩, h5⟩, h6⟩, h7⟩, h8⟩, h9⟩ := hh
      have hks : ∀ y ∈ ks, y ∈ k.T.exs := fun y hy => by
        rw [List.all_eq_true] at h6
        simpa using h6 y hy
      have T : ExTab X c ks := ⟨fun y hy => ok.ext.ex y (hks y hy), fun y hy z hz => ok.ext.sub y (hks y hy) z (hks z hz)⟩
      refine s_tryA (ws2 := wrs h) ok.stk ok.frm (by rw [ok.N]; exact ok.nd) (by rw [ok.N]; exact h4) (by rw [← ok.sc] at h5; exact h5) T (by simpa using h7) (glC_ok ok.toCkOk h2) (plainName_ok h3).1 ok.tk (ok.ex0 h0) (hw i (List.mem_cons_self ..))
        (fun W' pn xe tk own => ck_ss b (ok.try h0 tk own) (fun j hj => hw j (List.mem_cons_of_mem _ (List.mem_append_left _ hj))) h8) fun a oe kk pn hk hz hf => ?_
      exact ck_ss h (ok.suite (ok.ex0 h0) (hks kk hk) hz hf) (fun j hj => hj) h9
    · cases hh
  | .tryM b ks hs, k, X, c, W, ws, st, ok, hw, hh => by
    unfold chkS at hh
    split at hh
    · simp only [Bool.and_eq_true, Bool.not_eq_true'] at hh
      obtain ⟨⟨⟨⟨h0, h1⟩, h2⟩, h3⟩, h4⟩ := hh
      have hks : ∀ y ∈ ks, y ∈ k.T.exs := fun y hy => by
        rw [List.all_eq_true] at h1
        simpa using h1 y hy
      have T : ExTab X c ks := ⟨fun y hy => ok.ext.ex y (hks y hy), fun y hy z hz => ok.ext.sub y (hks y hy) z (hks z hz)⟩
      have hd : ∀ d ∈ hs.cls, d ∈ ks := fun d hd => by
        rw [List.all_eq_true] at h2
        simpa using h2 d hd
      exact s_tryM ok.stk ok.frm T hd ok.tk (fun W' pn xe tk own => ck_ss b (ok.try h0 tk own) (fun j hj => hw j (List.mem_append_left _ hj)) h3)
        (ck_h hs ok T hd (ok.ex0 h0) (fun j hj => hw j (List.mem_append_right _ hj)) h4)
    · cases hh
theorem ck_h : ∀ (hs : IHs) {k : Ck} {X : Cx} {c : Cn} {W : WX} {ws : List Nat} {ks : List String} {st : List ExceptHandler}, StOk k X c R W → ExTab X c ks → (∀ d ∈ hs.cls, d ∈ ks) → c.exn = none → (∀ j ∈ wrh hs, j ∈ ws) → chkH k.suite hs st = true → HdsOk X st (hdl c R n ws hs)
  | .nil, k, X, c, W, ws, ks, st, ok, T, hd, hx, hw, h => by
    unfold chkH at h
    rw [List.isEmpty_iff] at h
    subst h
    exact .nil
  | .cons d b r, k, X, c, W, ws, ks, st, ok, T, hd, hx, hw, h => by
    unfold chkH at h
    split at h
    · simp only [Bool.and_eq_true, decide_eq_true_eq] at h
      obtain ⟨⟨⟨⟨rfl, h2⟩, h3⟩, h4⟩, h5⟩ := h
      refine .cons ⟨glC_ok ok.toCkOk h2, (plainName_ok h3).1, .inl (T.ex d (hd d (List.mem_cons_self ..))).mg⟩ (fun a oe cls dd pn hz hf => ?_) (ck_h r ok T (fun d' hd' => hd d' (List.mem_cons_of_mem _ hd')) hx (fun j hj => hw j (List.mem_append_right _ hj)) h5)
      exact ck_ss b (ok.suite0 hx hz hf) (fun j hj => hw j (List.mem_append_left _ hj)) h4
    · cases h
theorem ck_ss : ∀ (i : ISs) {k : Ck} {X : Cx} {c : Cn} {W : WX} {ws : List Nat} {st : List Stmt}, StOk k X c R W → (∀ j ∈ wrs i, j ∈ ws) → chkSs k i st = true → PSs X st (tS c W ws (execs R n i))
  | .nil, k, X, c, W, ws, st, ok, hw, h => by
    unfold chkSs at h
    rw [List.isEmpty_iff] at h
    subst h
    exact s_snil
  | .cons a r, k, X, c, W, ws, st, ok, hw, h => by
    unfold chkSs at h
    split at h
    · rw [Bool.and_eq_true] at h
      exact s_scons (ck_s a ok (fun j hj => hw j (List.mem_append_left _ hj)) h.1) (ck_ss r ok (fun j hj => hw j (List.mem_append_right _ hj)) h.2)
    · cases h
end
end
end OI

/-! OIx: all defs of a text; the law. -/
namespace OI
open PySem PySem.Spec PyProof.Rows L2

inductive EKind where
  | fn | mt (C m : String) | init (C : String) | lfn | mkr
structure Entry where
  kind : EKind
  name : String
  dn : Str
  qual : Str
  ps : List Str
  N : List Str
  st : Stmt
  fa : Addr
  fd : FuncData
  fn : Fn
def EKind.isL : EKind → Bool
  | .lfn => true
  | _ => false
def EKind.isM : EKind → Bool
  | .mkr => true
  | _ => false
def fnsOf (T : List Entry) : List (String × Nat) := T.filterMap fun e => match e.kind with
  | .fn => some (e.name, e.fn.np)
  | _ => none
def mthsOf (T : List Entry) : List (String × String × Nat) := T.filterMap fun e => match e.kind with
  | .mt C m => some (C, m, e.fn.np)
  | _ => none
def newsOf (T : List Entry) : List (String × Nat) := T.filterMap fun e => match e.kind with
  | .init C => some (C, e.fn.np)
  | _ => none
def lfnsOf (T : List Entry) : List String := T.filterMap fun e => match e.kind with
  | .lfn => some e.name
  | _ => none
/-- how a def is found -/
def Found (K : PySem.W.Frag) (mg : Str → Option Value) (c : Cn) (e : Entry) : Prop :=
  match e.kind with
  | .mt C m => e.name = C ++ "." ++ m ∧ Cls K (c.icl C) ∧ Meth K (c.icl C) (Str.ofString m) e.fa
  | .init C => e.name = C ++ ".__init__" ∧ mg (Str.ofString C) = some (.ref (c.icl C)) ∧ Mk K (c.icl C) e.fa
  | _ => mg (Str.ofString e.name) = some (.ref e.fa)
/-- the bodies of lambdas, by their names -/
abbrev Lams := List (String × Nat × IE)
def lcOf (tab : Tab) (lams : Lams) (g : String) (N : List Str) (body : Expr) (sc : Scope) : Bool := match lams.lookup g with
  | some (m, ie) => decide (N.length = m) && decide N.Nodup && chkE { N := N, sc := sc, T := tab } ie body
  | none => false
def kO (tab : Tab) (lams : Lams) (k : EKind) (N : List Str) (st : Stmt) : Ck := { N := N, sc := defScope st, T := tab, app := k.isL, mak := k.isM, lc := if k.isM = true then lcOf tab lams else fun _ _ _ _ => false }
def kOf (tab : Tab) (lams : Lams) (e : Entry) : Ck := kO tab lams e.kind e.N e.st
structure EntOk (K : PySem.W.Frag) (mg : Str → Option Value) (c : Cn) (Pg : Prog) (tab : Tab) (lams : Lams) (e : Entry) : Prop where
  F : L2.Fun K e.dn e.qual e.st e.fa e.fd
  S : FnScope e.N e.ps (defScope e.st)
  B : Binds K e.fd e.ps []
  at_ : Found K mg c e
  np : e.ps.length = e.fn.np
  ns : e.fn.ns = e.N.length
  lk : look Pg e.name = some e.fn
  ck : chkSs (kOf tab lams e) e.fn.body (defBody e.st) = true
structure ExK (K : PySem.W.Frag) (mg : Str → Option Value) (c : Cn) (k : String) : Prop where
  mg : mg (Str.ofString k) = some (.ref (c.cls k))
  kp : PySem.W.keepIn K (.ref (c.cls k)) = true
  xc : PySem.W.excIn K (c.cls k) [.type "ValueError", .type "Exception", .type "BaseException", .type "object"] "ValueError.__new__" = true
  sb : PySem.W.subIn K (.ref (c.cls k)) (.type "BaseException") = some true
  ve : PySem.W.subIn K (.ref (c.cls k)) (.type "ValueError") = some true
  ty : PySem.W.typeIn K (.ref (c.cls k)) = some (.type "type")
  is : ExcC K (c.cls k)
/-- what the text has is so -/
structure TabOk (K : PySem.W.Frag) (mg : Str → Option Value) (c : Cn) (tab : Tab) : Prop where
  blt : ∀ x ∈ tab.blts, mg (Str.ofString x) = none
  fld : ∀ f ∈ tab.flds, ∀ kk, Cls K (c.icl kk) ∧ NoAttr K (c.icl kk) (Str.ofString f)
  ex : ∀ k ∈ tab.exs, ExK K mg c k
  sub : ∀ k ∈ tab.exs, ∀ d ∈ tab.exs, PySem.W.subIn K (.ref (c.cls k)) (.ref (c.cls d)) = some (isSub k d)
  glb : ∀ x d, (x, d) ∈ tab.glbs → GlobOk c mg x d
theorem GlobOk.wl {c : Cn} {mg : Str → Option Value} {x : String} {d : D} {L : LamI} (hx : c.lam = none) (h : GlobOk c mg x d) : GlobOk (c.wl L) mg x d := by
  obtain ⟨v, u, h1, h2, h3⟩ := h
  exact ⟨v, u, h1, h2, fun S => (h3 S).wl hx⟩
theorem lk_mem {β : Type} {a : String} {b : β} : ∀ {l : List (String × β)}, l.lookup a = some b → (a, b) ∈ l
  | [], h => by cases h
  | (x, y) :: r, h => by
    rw [List.lookup_cons] at h
    cases q : a == x with
    | true =>
      rw [q] at h
      cases h
      rw [beq_iff_eq.mp q]
      exact List.mem_cons_self
    | false =>
      rw [q] at h
      exact List.mem_cons_of_mem _ (lk_mem h)
section
variable {P : Program} {w : World} {K : PySem.W.Frag} {mg : Str → Option Value} {base : Heap} {c : Cn} {T : List Entry} {Pg : Prog} {tab : Tab} {lams : Lams} {m : Nat}
/-- the defs' promises at a depth -/
def DefsOk (P : Program) (w : World) (K : PySem.W.Frag) (mg : Str → Option Value) (base : Heap) (T : List Entry) (Pg : Prog) (m : Nat) (c : Cn) (n : Nat) : Prop :=
  ∀ e ∈ T, e.kind.isL = false → (e.kind.isM = true → c.lam = none) → FnOk P w K mg base (L2.CX P w) (2 * n) e.fa e.fd e.ps (spF c (run Pg m n) e.name e.fn.np)
structure Ents (K : PySem.W.Frag) (mg : Str → Option Value) (c : Cn) (T : List Entry) (Pg : Prog) (tab : Tab) (lams : Lams) : Prop where
  h1 : tab.fns = fnsOf T
  h2 : tab.mths = mthsOf T
  h3 : tab.news = newsOf T
  hb : TabOk K mg c tab
  hT : ∀ e ∈ T, EntOk K mg c Pg tab lams e
theorem Ents.fnI (o : Ents K mg c T Pg tab lams) {X : Cx} {n : Nat} (eP : X.prog = P) (ew : X.w = w) (eK : X.K = K) (em : X.mg = mg) (eb : X.base = base) (hr : Room (2 * n) X.A) (ih : DefsOk P w K mg base T Pg m c n) (f : String) (np : Nat) (hf : (f, np) ∈ tab.fns) :
    ∃ j, FnI X c (run Pg m n) j f np ∧ Room j X.A := by
  subst eP ew eK em eb
  rw [o.h1] at hf
  obtain ⟨e2, g2, g3⟩ := List.mem_filterMap.mp hf
  have o2 := o.hT e2 g2
  have a2 := o2.at_
  unfold Found at a2
  split at g3
  · rename_i hk
    rw [hk] at a2
    cases g3
    exact ⟨2 * n, ⟨⟨e2.fa, e2.fd, e2.ps, a2, o2.F.kp, o2.B, o2.np, ih e2 g2 (by rw [hk]; rfl) (fun z => by rw [hk] at z; cases z)⟩⟩, hr⟩
  · cases g3
theorem Ents.mtI (o : Ents K mg c T Pg tab lams) {X : Cx} {n : Nat} (eP : X.prog = P) (ew : X.w = w) (eK : X.K = K) (em : X.mg = mg) (eb : X.base = base) (hr : Room (2 * n) X.A) (ih : DefsOk P w K mg base T Pg m c n) (C mm : String) (np : Nat) (hf : (C, mm, np) ∈ tab.mths) :
    ∃ j, MtI X c (run Pg m n) j C mm np ∧ Room j X.A := by
  subst eP ew eK em eb
  rw [o.h2] at hf
  obtain ⟨e2, g2, g3⟩ := List.mem_filterMap.mp hf
  have o2 := o.hT e2 g2
  have a2 := o2.at_
  unfold Found at a2
  split at g3
  · rename_i hk
    rw [hk] at a2
    cases g3
    obtain ⟨q1, q2, q3⟩ := a2
    exact ⟨2 * n, ⟨q2, e2.fa, e2.fd, e2.ps, q3, o2.B, o2.np, by rw [← q1]; exact ih e2 g2 (by rw [hk]; rfl) (fun z => by rw [hk] at z; cases z)⟩, hr⟩
  · cases g3
theorem Ents.nwI (o : Ents K mg c T Pg tab lams) {X : Cx} {n : Nat} (eP : X.prog = P) (ew : X.w = w) (eK : X.K = K) (em : X.mg = mg) (eb : X.base = base) (hr : Room (2 * n + 1) X.A) (ih : DefsOk P w K mg base T Pg m c n) (C : String) (np : Nat) (hf : (C, np) ∈ tab.news) :
    ∃ j, NwI X c (run Pg m n) j C np ∧ Room (j + 1) X.A := by
  subst eP ew eK em eb
  rw [o.h3] at hf
  obtain ⟨e2, g2, g3⟩ := List.mem_filterMap.mp hf
  have o2 := o.hT e2 g2
  have a2 := o2.at_
  unfold Found at a2
  split at g3
  · rename_i hk
    rw [hk] at a2
    cases g3
    obtain ⟨q1, q2, q3⟩ := a2
    exact ⟨2 * n, ⟨q2, e2.fa, e2.fd, e2.ps, q3, o2.B, o2.np, by rw [← q1]; exact ih e2 g2 (by rw [hk]; rfl) (fun z => by rw [hk] at z; cases z)⟩, hr⟩
  · cases g3
theorem Ents.wl (o : Ents K mg c T Pg tab lams) (hx : c.lam = none) (L : LamI) : Ents K mg (c.wl L) T Pg tab lams :=
  ⟨o.h1, o.h2, o.h3, ⟨o.hb.blt, o.hb.fld, fun k hk => let x := o.hb.ex k hk; ⟨x.mg, x.kp, x.xc, x.sb, x.ve, x.ty, x.is⟩, o.hb.sub, fun x d h => (o.hb.glb x d h).wl hx⟩, fun e he => let x := o.hT e he; ⟨x.F, x.S, x.B, x.at_, x.np, x.ns, x.lk, x.ck⟩⟩
/-- the body of a lambda -/
theorem lam_pe (o : Ents K mg c T Pg tab lams) (hK : K = c.K) (hx : c.exn = none) {n : Nat} (ih : DefsOk P w K mg base T Pg m c n) {tx : LamTx} {L : LamI} {clos : List (Str × Addr)} {A : Around} {outer : List PySem.Env} {s : Shared} {H : Hp} {E : XK} {ie : IE} (nd : tx.N.Nodup)
    (hr : Room (2 * n + 1) (A.deeper (lamE tx L clos s.heap.objs.size))) (ck : chkE { N := tx.N, sc := tx.scope, T := tab } ie tx.body = true) :
    PE (lamC P w K mg base tx L clos A outer s H E) tx.body (tE c (fun cls d _ H => E cls d H) (ev (run Pg m n) ie)) := by
  have hr0 := hr.mono (show 2 * n ≤ 2 * n + 1 by omega)
  refine (ck_e ie (k := { N := tx.N, sc := tx.scope, T := tab }) ⟨rfl, nd, rfl, hK, fun _ => rfl, ?_, fun _ f np hf => o.fnI rfl rfl rfl rfl rfl hr0 ih f np hf, fun _ C mm np hf => o.mtI rfl rfl rfl rfl rfl hr0 ih C mm np hf, fun _ C np hf => o.nwI rfl rfl rfl rfl rfl hr ih C np hf,
    o.hb.blt, o.hb.fld, ⟨fun k hk => let x := o.hb.ex k hk; ⟨x.mg, x.kp, x.xc, x.sb, x.ve, x.ty, x.is⟩, o.hb.sub⟩, o.hb.glb, fun a k h => by (rw [hx] at h; cases h), fun _ => hx, fun h => (by cases h), fun h => (by cases h), fun _ _ _ _ _ h => (by cases h)⟩ (takes_of rfl rfl rfl rfl) ck).pe
  have := hr.un
  show (A.deeper _).units + 65 < cLine
  omega
theorem one_ret {c : Cn} {W : WX} {ws : List Nat} {R : Runs} {n : Nat} {ie : IE} {D : Ends} {σ : L2.St} {H : Hp} (q : tS c W ws (execs R n (.cons (.ret ie) .nil)) D σ H) : tE c W (ev R ie) σ H D.rt := by
  refine ret_ok (ws := ws) (n := n) ?_
  obtain ⟨S, e, s, rfl, Rr, p⟩ := q
  refine ⟨S, e, s, rfl, Rr, ?_⟩
  replace p : PostS c W ws S s ((exec R n (.ret ie) e s).bind fun f e s => match f with
    | .nx => execs R n .nil e s
    | .ret m => .ok (.ret m) e s) D := p
  cases h : exec R n (.ret ie) e s with
  | ok f e1 s1 =>
    rw [h] at p
    cases f with
    | nx => exact p
    | ret m => exact p
  | err k e1 s1 => rw [h] at p; exact p
  | bad => rw [h] at p; exact p
theorem start_full {N : List Str} {vs : List V} (h : vs.length = N.length) : L2.start N vs = vs.map some := by
  unfold L2.start
  rw [h, Nat.sub_self, List.replicate_zero, List.append_nil]
/-- a def of the text that takes a lambda -/
def LfnRun (P : Program) (w : World) (K : PySem.W.Frag) (mg : Str → Option Value) (base : Heap) (Pg : Prog) (m : Nat) (c : Cn) (n : Nat) (e : Entry) (g : String) (tx : LamTx) : Prop :=
  ∀ (L : LamI) (A : Around) (outer : List PySem.Env) (s : Shared) (H : Hp) (Q : VK), L.g = g → L.vs.length = tx.N.length → Room (2 * n) A → Env0 P w K mg base A outer s H → LamAt tx L (frs outer) s.heap H → H L.cd = some (LamX.CodeO L.cd L.q) →
    spF (c.wl L) (run Pg m n) e.name 1 [.ref L.f] H Q (fun _ _ _ => False) → codeAny (model P w) A (.call (.ref e.fa) ⟨[.ref L.f], []⟩) (CR (L2.CX P w) outer P w H s Q fun _ _ _ => False) s
theorem lfn_run (o : Ents K mg c T Pg tab lams) (hK : K = c.K) (hx : c.exn = none) (hl : c.lam = none) (hla : ∀ g k ie, (g, k, ie) ∈ lams → look Pg g = some ⟨k, k, .cons (.ret ie) .nil⟩) {n : Nat} (ih : ∀ L j, j < n → DefsOk P w K mg base T Pg m (c.wl L) j) {e : Entry} (he : e ∈ T) (hL : e.kind.isL = true)
    {g : String} {tx : LamTx} (hlc : lcOf tab lams g tx.N tx.body tx.scope = true) (O : tx.Ok) : LfnRun P w K mg base Pg m c n e g tx := by
  intro L A outer s H Q hg hvl hr e0 la hcd sp
  subst hg
  cases n with
  | zero => obtain ⟨_, _, _, _, _, _, _, _, p⟩ := sp; exact p.elim
  | succ n =>
    have oe := o.hT e he
    obtain ⟨oc, od, kV, doc, pm, an, cdv, ct, osl, hfd, lk, hcode⟩ := oe.F.ex
    have hlk : ∃ k ie, (L.g, k, ie) ∈ lams ∧ tx.N.length = k ∧ tx.N.Nodup ∧ chkE { N := tx.N, sc := tx.scope, T := tab } ie tx.body = true := by
      unfold lcOf at hlc
      split at hlc
      · rename_i k ie hq
        simp only [Bool.and_eq_true, decide_eq_true_eq] at hlc
        exact ⟨k, ie, lk_mem hq, hlc.1.1, hlc.1.2, hlc.2⟩
      · cases hlc
    obtain ⟨lm, ie, hmem, hN, hnd, hck⟩ := hlk
    have hps : e.ps.length = 1 := by
      obtain ⟨S, s', ds, _, _, _, r, hl, p⟩ := id sp
      unfold run at p
      rw [oe.lk] at p
      dsimp only at p
      split at p
      · rename_i hh
        have := r.length
        rw [oe.np, ← hh.1, ← this]
        rfl
      · exact p.elim
    have ol := o.wl hl L
    have KX : K.In s.heap := e0.mod.kin.keeps fun b o e => (e0.bs b o e).1
    have hbd := oe.B s [.ref L.f] KX (by rw [List.append_nil, hps]; rfl)
    rw [List.append_nil] at hbd
    rw [hfd] at hbd lk
    refine LamX.run_ofS (k := 2 * n + 1) (vs := [.ref L.f]) lk hcode oe.S hr e0 hbd (.cons rfl .nil) (by rw [hps]; rfl) fun hr1 => ?_
    have hr0 := hr1.mono (show 2 * n ≤ 2 * n + 1 by omega)
    refine ⟨_, ck_ss (ws := wrs e.fn.body) (W := fun cls d _ H => False) (c := c.wl L) (R := run Pg m n) (n := m) e.fn.body ⟨⟨rfl, oe.S.nd, rfl, hK, fun _ => rfl, ?_, fun _ f np hf => ol.fnI rfl rfl rfl rfl rfl hr0 (ih L n (by omega)) f np hf, fun _ C mm np hf => ol.mtI rfl rfl rfl rfl rfl hr0 (ih L n (by omega)) C mm np hf, fun _ C np hf => ol.nwI rfl rfl rfl rfl rfl hr1 (ih L n (by omega)) C np hf,
      ol.hb.blt, ol.hb.fld, ⟨fun k hk => let x := ol.hb.ex k hk; ⟨x.mg, x.kp, x.xc, x.sb, x.ve, x.ty, x.is⟩, ol.hb.sub⟩, ol.hb.glb, fun a k h => by (rw [show (c.wl L).exn = none from hx] at h; cases h), fun _ => hx, fun _ => ?_, fun h => ?_, fun _ _ _ _ _ h => ?_⟩, fun _ => passes_of rfl, rfl, rfl, fun _ => rfl, ?_, takes_of rfl rfl rfl rfl⟩ (fun j hj => hj) oe.ck, ?_⟩
    · have := hr1.un
      show (A.deeper _).units + 65 < cLine
      omega
    · refine ⟨tx, L, 2 * n, rfl, O, hvl, la, rfl, hr1, fun A' outer' s' H' E' clos hr' => ?_⟩
      cases n with
      | zero => exact ⟨fun _ _ _ => False, ⟨fun _ _ _ _ _ _ z => z.elim⟩, fun Q' sp' => by obtain ⟨_, _, _, _, _, _, _, _, p⟩ := sp'; exact p.elim⟩
      | succ n =>
        refine ⟨_, lam_pe (tx := tx) ol hK hx (ih L n (by omega)) hnd (hr'.mono (by omega)) hck, fun Q' sp' => ?_⟩
        obtain ⟨S, s2, ds, rfl, R0, ns, r, hl2, p⟩ := sp'
        unfold run at p
        rw [hla _ _ _ hmem] at p
        dsimp only at p
        split at p
        · rename_i hh
          have b := one_ret (body_of (ws := []) (N := tx.N) (fn := ⟨lm, lm, .cons (.ret ie) .nil⟩) R0 ns r hN.symm (Nat.le_of_eq hh.1) p)
          rw [start_full hvl] at b
          exact b
        · exact p.elim
    · rw [show (kOf tab lams e).mak = e.kind.isM from rfl] at h
      cases hk : e.kind <;> rw [hk] at h hL <;> first | (cases hL; done) | (cases h; done)
    · rw [show (kOf tab lams e).lc = if e.kind.isM = true then lcOf tab lams else fun _ _ _ _ => false from rfl] at h
      rw [if_neg (by cases hk : e.kind <;> rw [hk] at hL <;> first | (cases hL; done) | (intro z; cases z; done))] at h
      cases h
    · show (if (defScope e.st).kind.isAnnotationScope then ScopeKind.function else (defScope e.st).kind) = .function
      rw [oe.S.kind]
      rfl
    · obtain ⟨S, s2, ds, rfl, R0, ns, r, hl2, p⟩ := sp
      unfold run at p
      rw [oe.lk] at p
      dsimp only at p
      split at p
      · rename_i hh
        exact body_of R0 ns r oe.ns (by omega) p
      · exact p.elim
/-- what is known of a def that makes lambdas -/
def MakOk (mg : Str → Option Value) (base : Heap) (c : Cn) (e : Entry) : Prop := e.kind.isM = true → ∃ cc P, e.fd.code = .ref cc ∧ LamX.TabB base mg cc P ∧ (P, (e.qual ++ ".<locals>.") ++ "<lambda>") ∈ c.tb ∧ ∀ p ∈ c.tb, p.1 = P → p.2 = (e.qual ++ ".<locals>.") ++ "<lambda>"
theorem all_okL (o : Ents K mg c T Pg tab lams) (h4 : tab.lfns = lfnsOf T) (hK : K = c.K) (hx : c.exn = none) (hl : c.lam = none) (hla : ∀ g k ie, (g, k, ie) ∈ lams → look Pg g = some ⟨k, k, .cons (.ret ie) .nil⟩) (hm : ∀ e ∈ T, MakOk mg base c e) : ∀ n, ∀ j, j ≤ n → (∀ L, DefsOk P w K mg base T Pg m (c.wl L) j) ∧ DefsOk P w K mg base T Pg m c j
  | 0, j, hj => by
    obtain rfl : j = 0 := by omega
    exact ⟨fun L e he _ _ => ⟨fun vs H Q E ⟨_, _, _, _, _, _, _, _, p⟩ => p.elim, fun A outer s H args us vs Q E _ _ _ _ ⟨_, _, _, _, _, _, _, _, p⟩ => p.elim⟩, fun e he _ _ => ⟨fun vs H Q E ⟨_, _, _, _, _, _, _, _, p⟩ => p.elim, fun A outer s H args us vs Q E _ _ _ _ ⟨_, _, _, _, _, _, _, _, p⟩ => p.elim⟩⟩
  | n + 1, j, hj => by
    have ih := all_okL o h4 hK hx hl hla hm n
    by_cases hjn : j ≤ n
    · exact ih j hjn
    obtain rfl : j = n + 1 := by omega
    have main : ∀ c' : Cn, Ents K mg c' T Pg tab lams → K = c'.K → c'.exn = none → DefsOk P w K mg base T Pg m c' n → (c'.lam = none → c' = c) → DefsOk P w K mg base T Pg m c' (n + 1) := by
      intro c' o' hK' hx' ihn hc e he hL hM
      have oe := o'.hT e he
      obtain ⟨oc, od, kV, doc, pm, an, cdv, ct, osl, hfd, lk, hcode⟩ := oe.F.ex
      have hcd : e.fd.code = cdv := by rw [hfd]
      rw [hfd] at lk
      rw [hfd]
      refine fn_of (k := 2 * n + 1) lk hcode oe.S (fun vs H Q E h => ?_) fun A outer s H vs Q E hr h => ⟨tS c' (fun cls d _ H => E cls d H) (wrs e.fn.body) (execs (run Pg m n) m e.fn.body), ?_, ?_⟩
      · obtain ⟨S, s, ds, _, _, _, r, hl, _⟩ := h
        rw [r.length, hl, oe.np]
      · have hr0 := hr.mono (show 2 * n ≤ 2 * n + 1 by omega)
        refine ck_ss e.fn.body ⟨⟨rfl, oe.S.nd, rfl, hK', fun _ => rfl, ?_, fun _ f np hf => o'.fnI rfl rfl rfl rfl rfl hr0 ihn f np hf, fun _ C mm np hf => o'.mtI rfl rfl rfl rfl rfl hr0 ihn C mm np hf, fun _ C np hf => o'.nwI rfl rfl rfl rfl rfl hr ihn C np hf,
          o'.hb.blt, o'.hb.fld, ⟨fun k hk => let x := o'.hb.ex k hk; ⟨x.mg, x.kp, x.xc, x.sb, x.ve, x.ty, x.is⟩, o'.hb.sub⟩, o'.hb.glb, fun a k h => by (rw [hx'] at h; cases h), fun _ => hx', fun z => ?_, fun z => ?_, fun _ f g tx hf hq hO => ?_⟩, fun _ => passes_of rfl, rfl, rfl, fun _ => rfl, ?_, takes_of rfl rfl rfl rfl⟩ (fun j hj => hj) oe.ck
        · have := hr.un
          show (A.deeper _).units + 65 < cLine
          omega
        · rw [show (kOf tab lams e).app = e.kind.isL from rfl, hL] at z
          cases z
        · have z : e.kind.isM = true := z
          have hcc := hc (hM z)
          subst hcc
          obtain ⟨cc, P', k1, k2, k3, k4⟩ := hm e he z
          exact ⟨⟨cc, P', hcd.symm.trans k1, k2, k3, k4⟩, hM z⟩
        · by_cases z : e.kind.isM = true
          · have hcc := hc (hM z)
            subst hcc
            have hq : (if e.kind.isM = true then lcOf tab lams else fun _ _ _ _ => false) g tx.N tx.body tx.scope = true := hq
            rw [if_pos z] at hq
            have hf : f ∈ tab.lfns := hf
            rw [h4] at hf
            obtain ⟨e2, g2, g3⟩ := List.mem_filterMap.mp hf
            split at g3
            · rename_i hk2
              cases g3
              have o2 := o.hT e2 g2
              have a2 := o2.at_
              unfold Found at a2
              rw [hk2] at a2
              exact ⟨e2.fa, 2 * n, a2, o2.F.kp, hr0, lfn_run o hK hx hl hla (fun L j hj => (ih j (by omega)).1 L) g2 (by rw [hk2]; rfl) hq hO⟩
            · cases g3
          · have hq : (if e.kind.isM = true then lcOf tab lams else fun _ _ _ _ => false) g tx.N tx.body tx.scope = true := hq
            rw [if_neg z] at hq
            cases hq
        · show (if (defScope e.st).kind.isAnnotationScope then ScopeKind.function else (defScope e.st).kind) = .function
          rw [oe.S.kind]
          rfl
      · obtain ⟨S, s2, ds, rfl, R0, ns, r, hl2, p⟩ := h
        unfold run at p
        rw [oe.lk] at p
        dsimp only at p
        split at p
        · rename_i hh
          exact body_of R0 ns r oe.ns (by omega) p
        · exact p.elim
    exact ⟨fun L => main (c.wl L) (o.wl hl L) hK hx ((ih n (Nat.le_refl _)).1 L) (fun z => by cases z), main c o hK hx (ih n (Nat.le_refl _)).2 fun _ => rfl⟩
end
/-- .. of a text without lambdas -/
theorem all_ok {P : Program} {w : World} {K : PySem.W.Frag} {mg : Str → Option Value} {base : Heap} {c : Cn} (hK : K = c.K) (hx : c.exn = none) (hl : c.lam = none) {T : List Entry} {Pg : Prog} {tab : Tab} {m : Nat} (h1 : tab.fns = fnsOf T) (h2 : tab.mths = mthsOf T) (h3 : tab.news = newsOf T) (h4 : tab.lfns = lfnsOf T) (hn : ∀ e ∈ T, e.kind.isM = false ∧ e.kind.isL = false) (hb : TabOk K mg c tab)
    (hT : ∀ e ∈ T, EntOk K mg c Pg tab [] e) (n : Nat) (e : Entry) (he : e ∈ T) : FnOk P w K mg base (L2.CX P w) (2 * n) e.fa e.fd e.ps (spF c (run Pg m n) e.name e.fn.np) :=
  (all_okL (lams := []) ⟨h1, h2, h3, hb, hT⟩ h4 hK hx hl (fun _ _ _ z => by cases z) (fun e he z => by rw [(hn e he).1] at z; cases z) n n (Nat.le_refl _)).2 e he (hn e he).2 fun _ => hl
/-- the law's promise from the plain run -/
theorem law_spL {K : PySem.W.Frag} {c : Cn} (hK : K = c.K) {Pg : Prog} {m n N : Nat} (pure : ∀ ns : List Int, ns.length ≤ N → (∀ z ∈ ns, Builtin.Int.intBits z ≤ 1048576) → ∃ s, run Pg m n "law" [.scr ns] [] = .ok (.val (.bl true)) s)
    (H : Hp) (a : Addr) (ns : List Int) (h1 : ns.length ≤ N) (h2 : ∀ z ∈ ns, Builtin.Int.intBits z ≤ 1048576) (h3 : HL c H) (h4 : SqL K H a (ns.map V.int)) : spF c (run Pg m n) "law" 1 [.ref a] H (fun v _ => v = .bl true) fun _ _ _ => False := by
  obtain ⟨s, hs⟩ := pure ns h1 h2
  refine ⟨⟨[], fun _ => none, H⟩, [], [.scr ns], rfl, ⟨rfl, fun n e h => by simp at h, fun a h => absurd rfl h, fun a q n h => (by cases h), h3⟩, fun a i h => (by cases h), ⟨_, [], rfl, ⟨a, rfl, ?_⟩, rfl⟩, rfl, ?_⟩
  · rw [hK] at h4
    exact h4.elim (fun h => .inl ⟨h, rfl⟩) .inr
  · rw [hs]
    exact fun S' v _ _ _ r => r
theorem law_sp {K : PySem.W.Frag} {c : Cn} (hK : K = c.K) (ht : c.tb = []) {Pg : Prog} {m n N : Nat} (pure : ∀ ns : List Int, ns.length ≤ N → (∀ z ∈ ns, Builtin.Int.intBits z ≤ 1048576) → ∃ s, run Pg m n "law" [.scr ns] [] = .ok (.val (.bl true)) s)
    (H : Hp) (a : Addr) (ns : List Int) (h1 : ns.length ≤ N) (h2 : ∀ z ∈ ns, Builtin.Int.intBits z ≤ 1048576) (h3 : Only H) (h4 : SqL K H a (ns.map V.int)) : spF c (run Pg m n) "law" 1 [.ref a] H (fun v _ => v = .bl true) fun _ _ _ => False := by
  refine law_spL hK pure H a ns h1 h2 ⟨fun b => ?_, fun p hp => by rw [ht] at hp; cases hp⟩ h4
  rcases h3 b with e | ⟨o, xs, e⟩
  · rw [e]
    exact ⟨fun _ z => (by cases z), fun _ z => (by cases z), fun _ z => (by cases z)⟩
  · rw [e]
    exact ⟨fun _ z => (by cases z), fun _ z => (by cases z), fun _ z => (by cases z)⟩
/-- the bounds of the heap's lists come from the heap -/
theorem fn_hl {P : Program} {w : World} {K : PySem.W.Frag} {mg : Str → Option Value} {base : Heap} {CX : CXT} {k : Nat} {f : Addr} {fd : FuncData} {ps : List Str} {sp : Sp} (F : FnOk P w K mg base CX k f fd ps sp) : FnOk P w K mg base CX k f fd ps fun vs H Q E => vs.length = ps.length ∧ (HLn H → sp vs H Q E) :=
  ⟨fun vs H Q E h => h.1, fun A outer s H args us vs Q E hr e0 hb hv h => F.run A outer s H args us vs Q E hr e0 hb hv (h.2 (hln_of e0.hok))⟩
/-- the code object and the table of a def, from the text -/
theorem tab_at {K : PySem.W.Frag} {x : Str} {cc P : Addr} {f : Addr} {oc : Value} {od : Option Addr} {fd : FuncData} {osl : Array (Option Value)} (ht : PySem.W.tabIn K x = some (cc, P)) (hn : PySem.W.nsIn K mainGlobals x = some (some (.ref f))) (hl : K.lookup f = some ⟨oc, od, .func fd, osl⟩) : fd.code = .ref cc := by
  unfold PySem.W.tabIn at ht
  rw [hn] at ht
  dsimp only at ht
  rw [hl] at ht
  dsimp only at ht
  split at ht
  · rename_i c2 hc
    split at ht
    · split at ht
      · cases ht
        exact hc
      · cases ht
    · cases ht
  · cases ht
/-- constants of the module -/
theorem glb_int {c : Cn} {mg : Str → Option Value} {x : String} {n : Int} {t : Tok} (h : mg (Str.ofString x) = some (.int n t)) : GlobOk c mg x (.int n) := ⟨.int n, _, h, ⟨t, rfl⟩, fun _ => rfl⟩
theorem glb_str {c : Cn} {mg : Str → Option Value} {x : String} {n : Str} {t : Tok} (h : mg (Str.ofString x) = some (.str n t)) : GlobOk c mg x (.str n) := ⟨.str n, _, h, ⟨t, rfl⟩, fun _ => rfl⟩
theorem glb_strs {c : Cn} {mg : Str → Option Value} {x : String} {ss : List Str} {w : Addr} {dw : Option Addr} {its : Array Value} {nw : Nat} {sl : Array (Option Value)} (h : mg (Str.ofString x) = some (.ref w)) (l : c.K.lookup w = some ⟨.type "tuple", dw, .seq its nw, sl⟩) (hz : its.size ≤ sizeLine) (v : Vals (ss.map V.str) its.toList) : GlobOk c mg x (.tup (ss.map .str)) :=
  ⟨.ref w, _, h, rfl, fun S => ⟨w, _, rfl, .inr ⟨_, its, nw, l, rfl, rfl, hz, v⟩, RepDs.strs ss⟩⟩
/-! words for the end of a claim's text -/
def pick : List (String × Addr) → Addr → String → Addr
  | [], d, _ => d
  | (n, a) :: r, d, s => if s = n then a else pick r d s
theorem pick_all {p : Addr → Prop} {d : Addr} (hd : p d) : ∀ {l : List (String × Addr)}, (∀ x ∈ l, p x.2) → ∀ s, p (pick l d s)
  | [], _, s => hd
  | (n, a) :: r, h, s => by
    unfold pick
    split
    · exact h _ (List.mem_cons_self ..)
    · exact pick_all hd (fun x hx => h x (List.mem_cons_of_mem _ hx)) s
section
variable {K : PySem.W.Frag} {mg : Str → Option Value} {c : Cn}
theorem exk_of {k : String} {x : Addr} (e : c.cls k = x) (h1 : mg (Str.ofString k) = some (.ref x)) (h2 : PySem.W.keepIn K (.ref x) = true) (h3 : PySem.W.excIn K x [.type "ValueError", .type "Exception", .type "BaseException", .type "object"] "ValueError.__new__" = true)
    (h4 : PySem.W.subIn K (.ref x) (.type "BaseException") = some true) (h5 : PySem.W.subIn K (.ref x) (.type "ValueError") = some true) (h6 : PySem.W.typeIn K (.ref x) = some (.type "type")) (h7 : ExcC K x) : ExK K mg c k := by
  subst e
  exact ⟨h1, h2, h3, h4, h5, h6, h7⟩
theorem sub_of {k d : String} {x y : Addr} {b : Bool} (e1 : c.cls k = x) (e2 : c.cls d = y) (h : PySem.W.subIn K (.ref x) (.ref y) = some b) (hb : b = isSub k d) : PySem.W.subIn K (.ref (c.cls k)) (.ref (c.cls d)) = some (isSub k d) := by
  rw [e1, e2, h, hb]
theorem mt_of {C m : String} {y : Addr} {e : Entry} (hk : e.kind = .mt C m) (hn : e.name = C ++ "." ++ m) (hy : c.icl C = y) (hc : Cls K y) (hm : Meth K y (Str.ofString m) e.fa) : Found K mg c e := by
  unfold Found
  rw [hk]
  subst hy
  exact ⟨hn, hc, hm⟩
theorem init_of {C : String} {y : Addr} {e : Entry} (hk : e.kind = .init C) (hn : e.name = C ++ ".__init__") (hy : c.icl C = y) (hg : mg (Str.ofString C) = some (.ref y)) (hm : Mk K y e.fa) : Found K mg c e := by
  unfold Found
  rw [hk]
  subst hy
  exact ⟨hn, hg, hm⟩
theorem fn_at {e : Entry} (hk : e.kind = .fn) (hg : mg (Str.ofString e.name) = some (.ref e.fa)) : Found K mg c e := by
  unfold Found
  rw [hk]
  exact hg
theorem lfn_at {e : Entry} (hk : e.kind = .lfn) (hg : mg (Str.ofString e.name) = some (.ref e.fa)) : Found K mg c e := by
  unfold Found
  rw [hk]
  exact hg
theorem mkr_at {e : Entry} (hk : e.kind = .mkr) (hg : mg (Str.ofString e.name) = some (.ref e.fa)) : Found K mg c e := by
  unfold Found
  rw [hk]
  exact hg
end
end OI

namespace OI
open PySem PySem.Spec PyProof.Rows L2
theorem pure_law : ∀ ns : List Int, ns.length ≤ 63 → (∀ z ∈ ns, Builtin.Int.intBits z ≤ 1048576) → ∃ s, run prog 1000000 100 "law" [.scr ns] [] = .ok (.val (.bl true)) s := Y.pure_law
/-! ### its text in the row -/
def topS (i : Nat) : Stmt := PySem.Challenge.pw_numbergaps_k11_whole_a_plan_settles.main.body.getD i (.Pass ⟨0, 0, 0, 0⟩)
def tab : Tab := { fns := [("narrowed", 3), ("is_box", 1), ("tightened", 3), ("tight", 1), ("looks_in", 2), ("answered", 4), ("least", 1), ("walked", 2), ("_law_start", 1), ("_law_drawn", 2), ("_law_same", 2), ("_law_box", 1), ("_law_of", 3), ("_law_longer", 3), ("_law_is_plan", 2), ("_law_deep", 1), ("_law_settles", 2), ("_law_left", 2), ("law", 1)], blts := ["bool", "int", "isinstance", "len", "list", "max", "min", "range", "str", "sum", "tuple", "zip"], mths := [("Search", "best", 2), ("Search", "worst", 3), ("Search", "plan", 2)], news := [("Search", 2)], flds := ["known", "total"], exs := ["NoWorld", "NoBox"], glbs := [("MOST_PLACES", .int 3), ("MOST_HIGH", .int 7)], lfns := [] }
def lams : Lams := []
abbrev st_narrowed : Stmt := topS 5
def N_narrowed : List Str := ["lows", "highs", "total", "least", "most", "low", "high"]
theorem sc_narrowed : FnScope N_narrowed ["lows", "highs", "total"] (defScope st_narrowed) := ⟨rfl, rfl, rfl, by decide +kernel, rfl, by decide +kernel, by decide +kernel⟩
set_option maxRecDepth 100000 in
theorem ck_narrowed : chkSs (kO tab lams .fn N_narrowed st_narrowed) f_narrowed.body (defBody st_narrowed) = true := by decide +kernel
abbrev st_is_box : Stmt := topS 9
def N_is_box : List Str := ["box", "lows", "highs", "total", "k"]
theorem sc_is_box : FnScope N_is_box ["box"] (defScope st_is_box) := ⟨rfl, rfl, rfl, by decide +kernel, rfl, by decide +kernel, by decide +kernel⟩
set_option maxRecDepth 100000 in
theorem ck_is_box : chkSs (kO tab lams .fn N_is_box st_is_box) f_is_box.body (defBody st_is_box) = true := by decide +kernel
abbrev st_tightened : Stmt := topS 10
def N_tightened : List Str := ["lows", "highs", "total", "found"]
theorem sc_tightened : FnScope N_tightened ["lows", "highs", "total"] (defScope st_tightened) := ⟨rfl, rfl, rfl, by decide +kernel, rfl, by decide +kernel, by decide +kernel⟩
set_option maxRecDepth 100000 in
theorem ck_tightened : chkSs (kO tab lams .fn N_tightened st_tightened) f_tightened.body (defBody st_tightened) = true := by decide +kernel
abbrev st_tight : Stmt := topS 11
def N_tight : List Str := ["box", "found"]
theorem sc_tight : FnScope N_tight ["box"] (defScope st_tight) := ⟨rfl, rfl, rfl, by decide +kernel, rfl, by decide +kernel, by decide +kernel⟩
set_option maxRecDepth 100000 in
theorem ck_tight : chkSs (kO tab lams .fn N_tight st_tight) f_tight.body (defBody st_tight) = true := by decide +kernel
abbrev st_looks_in : Stmt := topS 12
def N_looks_in : List Str := ["lows", "highs", "found", "k", "many"]
theorem sc_looks_in : FnScope N_looks_in ["lows", "highs"] (defScope st_looks_in) := ⟨rfl, rfl, rfl, by decide +kernel, rfl, by decide +kernel, by decide +kernel⟩
set_option maxRecDepth 100000 in
theorem ck_looks_in : chkSs (kO tab lams .fn N_looks_in st_looks_in) f_looks_in.body (defBody st_looks_in) = true := by decide +kernel
abbrev st_answered : Stmt := topS 13
def N_answered : List Str := ["lows", "highs", "total", "look", "k", "many", "yes"]
theorem sc_answered : FnScope N_answered ["lows", "highs", "total", "look"] (defScope st_answered) := ⟨rfl, rfl, rfl, by decide +kernel, rfl, by decide +kernel, by decide +kernel⟩
set_option maxRecDepth 100000 in
theorem ck_answered : chkSs (kO tab lams .fn N_answered st_answered) f_answered.body (defBody st_answered) = true := by decide +kernel
abbrev st_Search_init : Stmt := inClass (topS 15) 0
def N_Search_init : List Str := ["self", "total"]
theorem sc_Search_init : FnScope N_Search_init ["self", "total"] (defScope st_Search_init) := ⟨rfl, rfl, rfl, by decide +kernel, rfl, by decide +kernel, by decide +kernel⟩
set_option maxRecDepth 100000 in
theorem ck_Search_init : chkSs (kO tab lams (.init "Search") N_Search_init st_Search_init) f_Search_init.body (defBody st_Search_init) = true := by decide +kernel
abbrev st_Search_best : Stmt := inClass (topS 15) 1
def N_Search_best : List Str := ["self", "sides", "found", "look", "depth"]
theorem sc_Search_best : FnScope N_Search_best ["self", "sides"] (defScope st_Search_best) := ⟨rfl, rfl, rfl, by decide +kernel, rfl, by decide +kernel, by decide +kernel⟩
set_option maxRecDepth 100000 in
theorem ck_Search_best : chkSs (kO tab lams (.mt "Search" "best") N_Search_best st_Search_best) f_Search_best.body (defBody st_Search_best) = true := by decide +kernel
abbrev st_Search_worst : Stmt := inClass (topS 15) 2
def N_Search_worst : List Str := ["self", "sides", "look", "yes", "no"]
theorem sc_Search_worst : FnScope N_Search_worst ["self", "sides", "look"] (defScope st_Search_worst) := ⟨rfl, rfl, rfl, by decide +kernel, rfl, by decide +kernel, by decide +kernel⟩
set_option maxRecDepth 100000 in
theorem ck_Search_worst : chkSs (kO tab lams (.mt "Search" "worst") N_Search_worst st_Search_worst) f_Search_worst.body (defBody st_Search_worst) = true := by decide +kernel
abbrev st_Search_plan : Stmt := inClass (topS 15) 3
def N_Search_plan : List Str := ["self", "sides", "look", "yes", "no"]
theorem sc_Search_plan : FnScope N_Search_plan ["self", "sides"] (defScope st_Search_plan) := ⟨rfl, rfl, rfl, by decide +kernel, rfl, by decide +kernel, by decide +kernel⟩
set_option maxRecDepth 100000 in
theorem ck_Search_plan : chkSs (kO tab lams (.mt "Search" "plan") N_Search_plan st_Search_plan) f_Search_plan.body (defBody st_Search_plan) = true := by decide +kernel
abbrev st_least : Stmt := topS 16
def N_least : List Str := ["box", "lows", "highs", "total", "search"]
theorem sc_least : FnScope N_least ["box"] (defScope st_least) := ⟨rfl, rfl, rfl, by decide +kernel, rfl, by decide +kernel, by decide +kernel⟩
set_option maxRecDepth 100000 in
theorem ck_least : chkSs (kO tab lams .fn N_least st_least) f_least.body (defBody st_least) = true := by decide +kernel
abbrev st_walked : Stmt := topS 17
def N_walked : List Str := ["plan", "world", "found", "k", "many", "yes", "no"]
theorem sc_walked : FnScope N_walked ["plan", "world"] (defScope st_walked) := ⟨rfl, rfl, rfl, by decide +kernel, rfl, by decide +kernel, by decide +kernel⟩
set_option maxRecDepth 100000 in
theorem ck_walked : chkSs (kO tab lams .fn N_walked st_walked) f_walked.body (defBody st_walked) = true := by decide +kernel
abbrev st__law_start : Stmt := topS 19
def N__law_start : List Str := ["_law_script", "_law_mixed", "_law_cell"]
theorem sc__law_start : FnScope N__law_start ["_law_script"] (defScope st__law_start) := ⟨rfl, rfl, rfl, by decide +kernel, rfl, by decide +kernel, by decide +kernel⟩
set_option maxRecDepth 100000 in
theorem ck__law_start : chkSs (kO tab lams .fn N__law_start st__law_start) f__law_start.body (defBody st__law_start) = true := by decide +kernel
abbrev st__law_drawn : Stmt := topS 20
def N__law_drawn : List Str := ["_law_state", "_law_many", "_law_found", "_law_cell"]
theorem sc__law_drawn : FnScope N__law_drawn ["_law_state", "_law_many"] (defScope st__law_drawn) := ⟨rfl, rfl, rfl, by decide +kernel, rfl, by decide +kernel, by decide +kernel⟩
set_option maxRecDepth 100000 in
theorem ck__law_drawn : chkSs (kO tab lams .fn N__law_drawn st__law_drawn) f__law_drawn.body (defBody st__law_drawn) = true := by decide +kernel
abbrev st__law_same : Stmt := topS 21
def N__law_same : List Str := ["_law_found", "_law_due", "_law_k"]
theorem sc__law_same : FnScope N__law_same ["_law_found", "_law_due"] (defScope st__law_same) := ⟨rfl, rfl, rfl, by decide +kernel, rfl, by decide +kernel, by decide +kernel⟩
set_option maxRecDepth 100000 in
theorem ck__law_same : chkSs (kO tab lams .fn N__law_same st__law_same) f__law_same.body (defBody st__law_same) = true := by decide +kernel
abbrev st__law_box : Stmt := topS 22
def N__law_box : List Str := ["_law_state", "_law_many", "_law_wide", "_law_lows", "_law_highs", "_law_k", "_law_low", "_law_some", "_law_high", "_law_total"]
theorem sc__law_box : FnScope N__law_box ["_law_state"] (defScope st__law_box) := ⟨rfl, rfl, rfl, by decide +kernel, rfl, by decide +kernel, by decide +kernel⟩
set_option maxRecDepth 100000 in
theorem ck__law_box : chkSs (kO tab lams .fn N__law_box st__law_box) f__law_box.body (defBody st__law_box) = true := by decide +kernel
abbrev st__law_of : Stmt := topS 23
def N__law_of : List Str := ["_law_lows", "_law_highs", "_law_total", "_law_found", "_law_low", "_law_high", "_law_world"]
theorem sc__law_of : FnScope N__law_of ["_law_lows", "_law_highs", "_law_total"] (defScope st__law_of) := ⟨rfl, rfl, rfl, by decide +kernel, rfl, by decide +kernel, by decide +kernel⟩
set_option maxRecDepth 100000 in
theorem ck__law_of : chkSs (kO tab lams .fn N__law_of st__law_of) f__law_of.body (defBody st__law_of) = true := by decide +kernel
abbrev st__law_longer : Stmt := topS 24
def N__law_longer : List Str := ["_law_found", "_law_low", "_law_high", "_law_longer_here", "_law_world", "_law_many"]
theorem sc__law_longer : FnScope N__law_longer ["_law_found", "_law_low", "_law_high"] (defScope st__law_longer) := ⟨rfl, rfl, rfl, by decide +kernel, rfl, by decide +kernel, by decide +kernel⟩
set_option maxRecDepth 100000 in
theorem ck__law_longer : chkSs (kO tab lams .fn N__law_longer st__law_longer) f__law_longer.body (defBody st__law_longer) = true := by decide +kernel
abbrev st__law_is_plan : Stmt := topS 26
def N__law_is_plan : List Str := ["_law_plan", "_law_places", "_law_number"]
theorem sc__law_is_plan : FnScope N__law_is_plan ["_law_plan", "_law_places"] (defScope st__law_is_plan) := ⟨rfl, rfl, rfl, by decide +kernel, rfl, by decide +kernel, by decide +kernel⟩
set_option maxRecDepth 100000 in
theorem ck__law_is_plan : chkSs (kO tab lams .fn N__law_is_plan st__law_is_plan) f__law_is_plan.body (defBody st__law_is_plan) = true := by decide +kernel
abbrev st__law_deep : Stmt := topS 27
def N__law_deep : List Str := ["_law_plan"]
theorem sc__law_deep : FnScope N__law_deep ["_law_plan"] (defScope st__law_deep) := ⟨rfl, rfl, rfl, by decide +kernel, rfl, by decide +kernel, by decide +kernel⟩
set_option maxRecDepth 100000 in
theorem ck__law_deep : chkSs (kO tab lams .fn N__law_deep st__law_deep) f__law_deep.body (defBody st__law_deep) = true := by decide +kernel
abbrev st__law_settles : Stmt := topS 28
def N__law_settles : List Str := ["_law_plan", "_law_every", "_law_yes", "_law_world", "_law_no"]
theorem sc__law_settles : FnScope N__law_settles ["_law_plan", "_law_every"] (defScope st__law_settles) := ⟨rfl, rfl, rfl, by decide +kernel, rfl, by decide +kernel, by decide +kernel⟩
set_option maxRecDepth 100000 in
theorem ck__law_settles : chkSs (kO tab lams .fn N__law_settles st__law_settles) f__law_settles.body (defBody st__law_settles) = true := by decide +kernel
abbrev st__law_left : Stmt := topS 29
def N__law_left : List Str := ["_law_every", "_law_asked", "_law_found", "_law_k", "_law_many", "_law_answer", "_law_world"]
theorem sc__law_left : FnScope N__law_left ["_law_every", "_law_asked"] (defScope st__law_left) := ⟨rfl, rfl, rfl, by decide +kernel, rfl, by decide +kernel, by decide +kernel⟩
set_option maxRecDepth 100000 in
theorem ck__law_left : chkSs (kO tab lams .fn N__law_left st__law_left) f__law_left.body (defBody st__law_left) = true := by decide +kernel
abbrev st_law : Stmt := topS 30
def N_law : List Str := ["_law_script", "_law_state", "_law_turn", "_law_box_here", "_law_every", "_law_found", "_law_depth", "_law_plan", "_law_most", "_law_world", "_law_asked"]
theorem sc_law : FnScope N_law ["_law_script"] (defScope st_law) := ⟨rfl, rfl, rfl, by decide +kernel, rfl, by decide +kernel, by decide +kernel⟩
set_option maxRecDepth 100000 in
theorem ck_law : chkSs (kO tab lams .fn N_law st_law) f_law.body (defBody st_law) = true := by decide +kernel
def cn (K : PySem.W.Frag) (x0 x1 y0 : Addr) : Cn := { K := K, cls := pick [("NoWorld", x0), ("NoBox", x1)] 0, icl := pick [("Search", y0)] y0, exn := none }
def spLaw (K : PySem.W.Frag) : Sp := fun vs H Q E => ∀ c : Cn, c.K = K → c.tb = [] → spF c (run prog 1000000 100) "law" 1 vs H Q E
set_option maxHeartbeats 4000000 in
theorem all_mk {l : PySem.W.OpenLaw} {w : World} {K : PySem.W.Frag} {h : Heap} {mg : Str → Option Value} {fa x0 x1 y0 f0 f1 f2 f3 f4 f5 f6 f7 f8 f9 f10 f11 f12 f13 f14 f15 f16 f17 f18 f19 f20 f21 f22 : Addr} (X : K.In h) (G : h.Ns mainGlobals mg) (hfa : mg "law" = some (.ref fa))
    (ea0 : PySem.W.nsIn K mainGlobals "NoWorld" = some (some (.ref x0)))
    (eb0 : PySem.W.keepIn K (.ref x0) = true)
    (ec0 : PySem.W.excIn K x0 [.type "ValueError", .type "Exception", .type "BaseException", .type "object"] "ValueError.__new__" = true)
    (ed0 : PySem.W.subIn K (.ref x0) (.type "BaseException") = some true)
    (ee0 : PySem.W.subIn K (.ref x0) (.type "ValueError") = some true)
    (ef0 : PySem.W.typeIn K (.ref x0) = some (.type "type"))
    (eg0 : PySem.W.findIn K (.ref x0) "__getattribute__" = some (some (.builtin "BaseException.__getattribute__")))
    (eh0 : PySem.W.findIn K (.ref x0) "__getattr__" = some none)
    (ei0 : PySem.W.hasDictIn K x0 = true)
    (ej0 : PySem.W.findIn K (.ref x0) "__class__" = some (some (.builtin "object.__class__")))
    (ek0 : PySem.W.mroIn K x0 (.type "object") = some true)
    (ea1 : PySem.W.nsIn K mainGlobals "NoBox" = some (some (.ref x1)))
    (eb1 : PySem.W.keepIn K (.ref x1) = true)
    (ec1 : PySem.W.excIn K x1 [.type "ValueError", .type "Exception", .type "BaseException", .type "object"] "ValueError.__new__" = true)
    (ed1 : PySem.W.subIn K (.ref x1) (.type "BaseException") = some true)
    (ee1 : PySem.W.subIn K (.ref x1) (.type "ValueError") = some true)
    (ef1 : PySem.W.typeIn K (.ref x1) = some (.type "type"))
    (eg1 : PySem.W.findIn K (.ref x1) "__getattribute__" = some (some (.builtin "BaseException.__getattribute__")))
    (eh1 : PySem.W.findIn K (.ref x1) "__getattr__" = some none)
    (ei1 : PySem.W.hasDictIn K x1 = true)
    (ej1 : PySem.W.findIn K (.ref x1) "__class__" = some (some (.builtin "object.__class__")))
    (ek1 : PySem.W.mroIn K x1 (.type "object") = some true)
    (el : PySem.W.specialIn K (.builtin "object.__class__") "__get__" = some (some (.builtin "getset_descriptor.__get__")))
    (em : PySem.W.takesIn K (.builtin "object.__class__") = some true)
    (s0_0 : PySem.W.subIn K (.ref x0) (.ref x0) = some true)
    (s0_1 : PySem.W.subIn K (.ref x0) (.ref x1) = some false)
    (s1_0 : PySem.W.subIn K (.ref x1) (.ref x0) = some false)
    (s1_1 : PySem.W.subIn K (.ref x1) (.ref x1) = some true)
    (ya0 : PySem.W.nsIn K mainGlobals "Search" = some (some (.ref y0)))
    (yb0 : PySem.W.plainGet K y0 Str.empty = true)
    (yc0 : PySem.W.hasDictIn K y0 = true)
    (yd0 : PySem.W.plainOver K y0 = true)
    (ye0 : PySem.W.findIn K (.ref y0) "__setattr__" = some (some (.builtin "object.__setattr__")))
    (yf0 : PySem.W.makesIn K y0 = true)
    (yg0 : PySem.W.keepIn K (.ref y0) = true)
    (yn0_0 : PySem.W.findIn K (.ref y0) "known" = some none)
    (yn0_1 : PySem.W.findIn K (.ref y0) "total" = some none)
    {od0 an0 : Option Addr} {sl0 : Array (Option Value)} {oc0 kV0 dc0 pm0 cd0 ct0 : Value}
    (a0 : PySem.W.nsIn K mainGlobals "narrowed" = some (some (.ref f0)))
    (l0 : K.lookup f0 = some ⟨oc0, od0, .func (PySem.W.fnOf "narrowed" "narrowed" (defArgs st_narrowed) (defBody st_narrowed) (defScope st_narrowed) .none kV0 dc0 pm0 an0 cd0 ct0), sl0⟩)
    (c0 : PySem.W.codeIn K cd0 "narrowed" = true)
    (k0 : PySem.W.keepIn K (.ref f0) = true)
    {od1 an1 : Option Addr} {sl1 : Array (Option Value)} {oc1 kV1 dc1 pm1 cd1 ct1 : Value}
    (a1 : PySem.W.nsIn K mainGlobals "is_box" = some (some (.ref f1)))
    (l1 : K.lookup f1 = some ⟨oc1, od1, .func (PySem.W.fnOf "is_box" "is_box" (defArgs st_is_box) (defBody st_is_box) (defScope st_is_box) .none kV1 dc1 pm1 an1 cd1 ct1), sl1⟩)
    (c1 : PySem.W.codeIn K cd1 "is_box" = true)
    (k1 : PySem.W.keepIn K (.ref f1) = true)
    {od2 an2 : Option Addr} {sl2 : Array (Option Value)} {oc2 kV2 dc2 pm2 cd2 ct2 : Value}
    (a2 : PySem.W.nsIn K mainGlobals "tightened" = some (some (.ref f2)))
    (l2 : K.lookup f2 = some ⟨oc2, od2, .func (PySem.W.fnOf "tightened" "tightened" (defArgs st_tightened) (defBody st_tightened) (defScope st_tightened) .none kV2 dc2 pm2 an2 cd2 ct2), sl2⟩)
    (c2 : PySem.W.codeIn K cd2 "tightened" = true)
    (k2 : PySem.W.keepIn K (.ref f2) = true)
    {od3 an3 : Option Addr} {sl3 : Array (Option Value)} {oc3 kV3 dc3 pm3 cd3 ct3 : Value}
    (a3 : PySem.W.nsIn K mainGlobals "tight" = some (some (.ref f3)))
    (l3 : K.lookup f3 = some ⟨oc3, od3, .func (PySem.W.fnOf "tight" "tight" (defArgs st_tight) (defBody st_tight) (defScope st_tight) .none kV3 dc3 pm3 an3 cd3 ct3), sl3⟩)
    (c3 : PySem.W.codeIn K cd3 "tight" = true)
    (k3 : PySem.W.keepIn K (.ref f3) = true)
    {od4 an4 : Option Addr} {sl4 : Array (Option Value)} {oc4 kV4 dc4 pm4 cd4 ct4 : Value}
    (a4 : PySem.W.nsIn K mainGlobals "looks_in" = some (some (.ref f4)))
    (l4 : K.lookup f4 = some ⟨oc4, od4, .func (PySem.W.fnOf "looks_in" "looks_in" (defArgs st_looks_in) (defBody st_looks_in) (defScope st_looks_in) .none kV4 dc4 pm4 an4 cd4 ct4), sl4⟩)
    (c4 : PySem.W.codeIn K cd4 "looks_in" = true)
    (k4 : PySem.W.keepIn K (.ref f4) = true)
    {od5 an5 : Option Addr} {sl5 : Array (Option Value)} {oc5 kV5 dc5 pm5 cd5 ct5 : Value}
    (a5 : PySem.W.nsIn K mainGlobals "answered" = some (some (.ref f5)))
    (l5 : K.lookup f5 = some ⟨oc5, od5, .func (PySem.W.fnOf "answered" "answered" (defArgs st_answered) (defBody st_answered) (defScope st_answered) .none kV5 dc5 pm5 an5 cd5 ct5), sl5⟩)
    (c5 : PySem.W.codeIn K cd5 "answered" = true)
    (k5 : PySem.W.keepIn K (.ref f5) = true)
    {od6 an6 : Option Addr} {sl6 : Array (Option Value)} {oc6 kV6 dc6 pm6 cd6 ct6 : Value}
    (a6 : PySem.W.findIn K (.ref y0) "__init__" = some (some (.ref f6)))
    (i6 : PySem.W.isFn K (.ref f6) = true)
    (l6 : K.lookup f6 = some ⟨oc6, od6, .func (PySem.W.fnOf "__init__" "Search.__init__" (defArgs st_Search_init) (defBody st_Search_init) (defScope st_Search_init) .none kV6 dc6 pm6 an6 cd6 ct6), sl6⟩)
    (c6 : PySem.W.codeIn K cd6 "Search.__init__" = true)
    (k6 : PySem.W.keepIn K (.ref f6) = true)
    {od7 an7 : Option Addr} {sl7 : Array (Option Value)} {oc7 kV7 dc7 pm7 cd7 ct7 : Value}
    (a7 : PySem.W.findIn K (.ref y0) "best" = some (some (.ref f7)))
    (i7 : PySem.W.isFn K (.ref f7) = true)
    (l7 : K.lookup f7 = some ⟨oc7, od7, .func (PySem.W.fnOf "best" "Search.best" (defArgs st_Search_best) (defBody st_Search_best) (defScope st_Search_best) .none kV7 dc7 pm7 an7 cd7 ct7), sl7⟩)
    (c7 : PySem.W.codeIn K cd7 "Search.best" = true)
    (k7 : PySem.W.keepIn K (.ref f7) = true)
    {od8 an8 : Option Addr} {sl8 : Array (Option Value)} {oc8 kV8 dc8 pm8 cd8 ct8 : Value}
    (a8 : PySem.W.findIn K (.ref y0) "worst" = some (some (.ref f8)))
    (i8 : PySem.W.isFn K (.ref f8) = true)
    (l8 : K.lookup f8 = some ⟨oc8, od8, .func (PySem.W.fnOf "worst" "Search.worst" (defArgs st_Search_worst) (defBody st_Search_worst) (defScope st_Search_worst) .none kV8 dc8 pm8 an8 cd8 ct8), sl8⟩)
    (c8 : PySem.W.codeIn K cd8 "Search.worst" = true)
    (k8 : PySem.W.keepIn K (.ref f8) = true)
    {od9 an9 : Option Addr} {sl9 : Array (Option Value)} {oc9 kV9 dc9 pm9 cd9 ct9 : Value}
    (a9 : PySem.W.findIn K (.ref y0) "plan" = some (some (.ref f9)))
    (i9 : PySem.W.isFn K (.ref f9) = true)
    (l9 : K.lookup f9 = some ⟨oc9, od9, .func (PySem.W.fnOf "plan" "Search.plan" (defArgs st_Search_plan) (defBody st_Search_plan) (defScope st_Search_plan) .none kV9 dc9 pm9 an9 cd9 ct9), sl9⟩)
    (c9 : PySem.W.codeIn K cd9 "Search.plan" = true)
    (k9 : PySem.W.keepIn K (.ref f9) = true)
    {od10 an10 : Option Addr} {sl10 : Array (Option Value)} {oc10 kV10 dc10 pm10 cd10 ct10 : Value}
    (a10 : PySem.W.nsIn K mainGlobals "least" = some (some (.ref f10)))
    (l10 : K.lookup f10 = some ⟨oc10, od10, .func (PySem.W.fnOf "least" "least" (defArgs st_least) (defBody st_least) (defScope st_least) .none kV10 dc10 pm10 an10 cd10 ct10), sl10⟩)
    (c10 : PySem.W.codeIn K cd10 "least" = true)
    (k10 : PySem.W.keepIn K (.ref f10) = true)
    {od11 an11 : Option Addr} {sl11 : Array (Option Value)} {oc11 kV11 dc11 pm11 cd11 ct11 : Value}
    (a11 : PySem.W.nsIn K mainGlobals "walked" = some (some (.ref f11)))
    (l11 : K.lookup f11 = some ⟨oc11, od11, .func (PySem.W.fnOf "walked" "walked" (defArgs st_walked) (defBody st_walked) (defScope st_walked) .none kV11 dc11 pm11 an11 cd11 ct11), sl11⟩)
    (c11 : PySem.W.codeIn K cd11 "walked" = true)
    (k11 : PySem.W.keepIn K (.ref f11) = true)
    {od12 an12 : Option Addr} {sl12 : Array (Option Value)} {oc12 kV12 dc12 pm12 cd12 ct12 : Value}
    (a12 : PySem.W.nsIn K mainGlobals "_law_start" = some (some (.ref f12)))
    (l12 : K.lookup f12 = some ⟨oc12, od12, .func (PySem.W.fnOf "_law_start" "_law_start" (defArgs st__law_start) (defBody st__law_start) (defScope st__law_start) .none kV12 dc12 pm12 an12 cd12 ct12), sl12⟩)
    (c12 : PySem.W.codeIn K cd12 "_law_start" = true)
    (k12 : PySem.W.keepIn K (.ref f12) = true)
    {od13 an13 : Option Addr} {sl13 : Array (Option Value)} {oc13 kV13 dc13 pm13 cd13 ct13 : Value}
    (a13 : PySem.W.nsIn K mainGlobals "_law_drawn" = some (some (.ref f13)))
    (l13 : K.lookup f13 = some ⟨oc13, od13, .func (PySem.W.fnOf "_law_drawn" "_law_drawn" (defArgs st__law_drawn) (defBody st__law_drawn) (defScope st__law_drawn) .none kV13 dc13 pm13 an13 cd13 ct13), sl13⟩)
    (c13 : PySem.W.codeIn K cd13 "_law_drawn" = true)
    (k13 : PySem.W.keepIn K (.ref f13) = true)
    {od14 an14 : Option Addr} {sl14 : Array (Option Value)} {oc14 kV14 dc14 pm14 cd14 ct14 : Value}
    (a14 : PySem.W.nsIn K mainGlobals "_law_same" = some (some (.ref f14)))
    (l14 : K.lookup f14 = some ⟨oc14, od14, .func (PySem.W.fnOf "_law_same" "_law_same" (defArgs st__law_same) (defBody st__law_same) (defScope st__law_same) .none kV14 dc14 pm14 an14 cd14 ct14), sl14⟩)
    (c14 : PySem.W.codeIn K cd14 "_law_same" = true)
    (k14 : PySem.W.keepIn K (.ref f14) = true)
    {od15 an15 : Option Addr} {sl15 : Array (Option Value)} {oc15 kV15 dc15 pm15 cd15 ct15 : Value}
    (a15 : PySem.W.nsIn K mainGlobals "_law_box" = some (some (.ref f15)))
    (l15 : K.lookup f15 = some ⟨oc15, od15, .func (PySem.W.fnOf "_law_box" "_law_box" (defArgs st__law_box) (defBody st__law_box) (defScope st__law_box) .none kV15 dc15 pm15 an15 cd15 ct15), sl15⟩)
    (c15 : PySem.W.codeIn K cd15 "_law_box" = true)
    (k15 : PySem.W.keepIn K (.ref f15) = true)
    {od16 an16 : Option Addr} {sl16 : Array (Option Value)} {oc16 kV16 dc16 pm16 cd16 ct16 : Value}
    (a16 : PySem.W.nsIn K mainGlobals "_law_of" = some (some (.ref f16)))
    (l16 : K.lookup f16 = some ⟨oc16, od16, .func (PySem.W.fnOf "_law_of" "_law_of" (defArgs st__law_of) (defBody st__law_of) (defScope st__law_of) .none kV16 dc16 pm16 an16 cd16 ct16), sl16⟩)
    (c16 : PySem.W.codeIn K cd16 "_law_of" = true)
    (k16 : PySem.W.keepIn K (.ref f16) = true)
    {od17 an17 : Option Addr} {sl17 : Array (Option Value)} {oc17 kV17 dc17 pm17 cd17 ct17 : Value}
    (a17 : PySem.W.nsIn K mainGlobals "_law_longer" = some (some (.ref f17)))
    (l17 : K.lookup f17 = some ⟨oc17, od17, .func (PySem.W.fnOf "_law_longer" "_law_longer" (defArgs st__law_longer) (defBody st__law_longer) (defScope st__law_longer) .none kV17 dc17 pm17 an17 cd17 ct17), sl17⟩)
    (c17 : PySem.W.codeIn K cd17 "_law_longer" = true)
    (k17 : PySem.W.keepIn K (.ref f17) = true)
    {od18 an18 : Option Addr} {sl18 : Array (Option Value)} {oc18 kV18 dc18 pm18 cd18 ct18 : Value}
    (a18 : PySem.W.nsIn K mainGlobals "_law_is_plan" = some (some (.ref f18)))
    (l18 : K.lookup f18 = some ⟨oc18, od18, .func (PySem.W.fnOf "_law_is_plan" "_law_is_plan" (defArgs st__law_is_plan) (defBody st__law_is_plan) (defScope st__law_is_plan) .none kV18 dc18 pm18 an18 cd18 ct18), sl18⟩)
    (c18 : PySem.W.codeIn K cd18 "_law_is_plan" = true)
    (k18 : PySem.W.keepIn K (.ref f18) = true)
    {od19 an19 : Option Addr} {sl19 : Array (Option Value)} {oc19 kV19 dc19 pm19 cd19 ct19 : Value}
    (a19 : PySem.W.nsIn K mainGlobals "_law_deep" = some (some (.ref f19)))
    (l19 : K.lookup f19 = some ⟨oc19, od19, .func (PySem.W.fnOf "_law_deep" "_law_deep" (defArgs st__law_deep) (defBody st__law_deep) (defScope st__law_deep) .none kV19 dc19 pm19 an19 cd19 ct19), sl19⟩)
    (c19 : PySem.W.codeIn K cd19 "_law_deep" = true)
    (k19 : PySem.W.keepIn K (.ref f19) = true)
    {od20 an20 : Option Addr} {sl20 : Array (Option Value)} {oc20 kV20 dc20 pm20 cd20 ct20 : Value}
    (a20 : PySem.W.nsIn K mainGlobals "_law_settles" = some (some (.ref f20)))
    (l20 : K.lookup f20 = some ⟨oc20, od20, .func (PySem.W.fnOf "_law_settles" "_law_settles" (defArgs st__law_settles) (defBody st__law_settles) (defScope st__law_settles) .none kV20 dc20 pm20 an20 cd20 ct20), sl20⟩)
    (c20 : PySem.W.codeIn K cd20 "_law_settles" = true)
    (k20 : PySem.W.keepIn K (.ref f20) = true)
    {od21 an21 : Option Addr} {sl21 : Array (Option Value)} {oc21 kV21 dc21 pm21 cd21 ct21 : Value}
    (a21 : PySem.W.nsIn K mainGlobals "_law_left" = some (some (.ref f21)))
    (l21 : K.lookup f21 = some ⟨oc21, od21, .func (PySem.W.fnOf "_law_left" "_law_left" (defArgs st__law_left) (defBody st__law_left) (defScope st__law_left) .none kV21 dc21 pm21 an21 cd21 ct21), sl21⟩)
    (c21 : PySem.W.codeIn K cd21 "_law_left" = true)
    (k21 : PySem.W.keepIn K (.ref f21) = true)
    {od22 an22 : Option Addr} {sl22 : Array (Option Value)} {oc22 kV22 dc22 pm22 cd22 ct22 : Value}
    (a22 : PySem.W.nsIn K mainGlobals "law" = some (some (.ref f22)))
    (l22 : K.lookup f22 = some ⟨oc22, od22, .func (PySem.W.fnOf "law" "law" (defArgs st_law) (defBody st_law) (defScope st_law) .none kV22 dc22 pm22 an22 cd22 ct22), sl22⟩)
    (c22 : PySem.W.codeIn K cd22 "law" = true)
    (k22 : PySem.W.keepIn K (.ref f22) = true)
    {gt0 : Tok}
    (oig0 : PySem.W.nsIn K mainGlobals "MOST_PLACES" = some (some (.int 3 gt0)))
    {gt1 : Tok}
    (oig1 : PySem.W.nsIn K mainGlobals "MOST_HIGH" = some (some (.int 7 gt1)))
    (z0 : PySem.W.nsIn K mainGlobals "bool" = some none)
    (z1 : PySem.W.nsIn K mainGlobals "int" = some none)
    (z2 : PySem.W.nsIn K mainGlobals "isinstance" = some none)
    (z3 : PySem.W.nsIn K mainGlobals "len" = some none)
    (z4 : PySem.W.nsIn K mainGlobals "list" = some none)
    (z5 : PySem.W.nsIn K mainGlobals "max" = some none)
    (z6 : PySem.W.nsIn K mainGlobals "min" = some none)
    (z7 : PySem.W.nsIn K mainGlobals "range" = some none)
    (z8 : PySem.W.nsIn K mainGlobals "str" = some none)
    (z9 : PySem.W.nsIn K mainGlobals "sum" = some none)
    (z10 : PySem.W.nsIn K mainGlobals "tuple" = some none)
    (z11 : PySem.W.nsIn K mainGlobals "zip" = some none)
     : ∃ fd : FuncData, (∀ (s : Shared) (v : Value), BindsTo s fd ⟨[v], []⟩ [("_law_script", v)]) ∧ ∀ base : Heap, K.In base → base.Ns mainGlobals mg → FnOk l.prog w K mg base (L2.CX l.prog w) 200 fa fd ["_law_script"] (spLaw K) := by
  have e : f22 = fa := by
    have e := hfa.symm.trans (PySem.W.mg_of X G a22)
    cases e
    rfl
  subst e
  have q0 : (cn K x0 x1 y0).cls "NoWorld" = x0 := by simp [cn, pick]
  have q1 : (cn K x0 x1 y0).cls "NoBox" = x1 := by simp [cn, pick]
  have r0 : (cn K x0 x1 y0).icl "Search" = y0 := by simp [cn, pick]
  have C0 : Cls K y0 := ⟨yb0, yc0, yd0, ye0⟩
  have F0 := fun_mk (st := st_narrowed) l0 c0 k0
  have b0 := F0.binds (ps := ["lows", "highs", "total"]) fun _ _ _ _ _ _ us hl => match us, hl with | [_, _, _], _ => rfl
  have F1 := fun_mk (st := st_is_box) l1 c1 k1
  have b1 := F1.binds (ps := ["box"]) fun _ _ _ _ _ _ us hl => match us, hl with | [_], _ => rfl
  have F2 := fun_mk (st := st_tightened) l2 c2 k2
  have b2 := F2.binds (ps := ["lows", "highs", "total"]) fun _ _ _ _ _ _ us hl => match us, hl with | [_, _, _], _ => rfl
  have F3 := fun_mk (st := st_tight) l3 c3 k3
  have b3 := F3.binds (ps := ["box"]) fun _ _ _ _ _ _ us hl => match us, hl with | [_], _ => rfl
  have F4 := fun_mk (st := st_looks_in) l4 c4 k4
  have b4 := F4.binds (ps := ["lows", "highs"]) fun _ _ _ _ _ _ us hl => match us, hl with | [_, _], _ => rfl
  have F5 := fun_mk (st := st_answered) l5 c5 k5
  have b5 := F5.binds (ps := ["lows", "highs", "total", "look"]) fun _ _ _ _ _ _ us hl => match us, hl with | [_, _, _, _], _ => rfl
  have F6 := fun_mk (st := st_Search_init) l6 c6 k6
  have b6 := F6.binds (ps := ["self", "total"]) fun _ _ _ _ _ _ us hl => match us, hl with | [_, _], _ => rfl
  have F7 := fun_mk (st := st_Search_best) l7 c7 k7
  have b7 := F7.binds (ps := ["self", "sides"]) fun _ _ _ _ _ _ us hl => match us, hl with | [_, _], _ => rfl
  have F8 := fun_mk (st := st_Search_worst) l8 c8 k8
  have b8 := F8.binds (ps := ["self", "sides", "look"]) fun _ _ _ _ _ _ us hl => match us, hl with | [_, _, _], _ => rfl
  have F9 := fun_mk (st := st_Search_plan) l9 c9 k9
  have b9 := F9.binds (ps := ["self", "sides"]) fun _ _ _ _ _ _ us hl => match us, hl with | [_, _], _ => rfl
  have F10 := fun_mk (st := st_least) l10 c10 k10
  have b10 := F10.binds (ps := ["box"]) fun _ _ _ _ _ _ us hl => match us, hl with | [_], _ => rfl
  have F11 := fun_mk (st := st_walked) l11 c11 k11
  have b11 := F11.binds (ps := ["plan", "world"]) fun _ _ _ _ _ _ us hl => match us, hl with | [_, _], _ => rfl
  have F12 := fun_mk (st := st__law_start) l12 c12 k12
  have b12 := F12.binds (ps := ["_law_script"]) fun _ _ _ _ _ _ us hl => match us, hl with | [_], _ => rfl
  have F13 := fun_mk (st := st__law_drawn) l13 c13 k13
  have b13 := F13.binds (ps := ["_law_state", "_law_many"]) fun _ _ _ _ _ _ us hl => match us, hl with | [_, _], _ => rfl
  have F14 := fun_mk (st := st__law_same) l14 c14 k14
  have b14 := F14.binds (ps := ["_law_found", "_law_due"]) fun _ _ _ _ _ _ us hl => match us, hl with | [_, _], _ => rfl
  have F15 := fun_mk (st := st__law_box) l15 c15 k15
  have b15 := F15.binds (ps := ["_law_state"]) fun _ _ _ _ _ _ us hl => match us, hl with | [_], _ => rfl
  have F16 := fun_mk (st := st__law_of) l16 c16 k16
  have b16 := F16.binds (ps := ["_law_lows", "_law_highs", "_law_total"]) fun _ _ _ _ _ _ us hl => match us, hl with | [_, _, _], _ => rfl
  have F17 := fun_mk (st := st__law_longer) l17 c17 k17
  have b17 := F17.binds (ps := ["_law_found", "_law_low", "_law_high"]) fun _ _ _ _ _ _ us hl => match us, hl with | [_, _, _], _ => rfl
  have F18 := fun_mk (st := st__law_is_plan) l18 c18 k18
  have b18 := F18.binds (ps := ["_law_plan", "_law_places"]) fun _ _ _ _ _ _ us hl => match us, hl with | [_, _], _ => rfl
  have F19 := fun_mk (st := st__law_deep) l19 c19 k19
  have b19 := F19.binds (ps := ["_law_plan"]) fun _ _ _ _ _ _ us hl => match us, hl with | [_], _ => rfl
  have F20 := fun_mk (st := st__law_settles) l20 c20 k20
  have b20 := F20.binds (ps := ["_law_plan", "_law_every"]) fun _ _ _ _ _ _ us hl => match us, hl with | [_, _], _ => rfl
  have F21 := fun_mk (st := st__law_left) l21 c21 k21
  have b21 := F21.binds (ps := ["_law_every", "_law_asked"]) fun _ _ _ _ _ _ us hl => match us, hl with | [_, _], _ => rfl
  have F22 := fun_mk (st := st_law) l22 c22 k22
  have b22 := F22.binds (ps := ["_law_script"]) fun _ _ _ _ _ _ us hl => match us, hl with | [_], _ => rfl
  have hb : TabOk K mg (cn K x0 x1 y0) tab := by
    refine ⟨?_, ?_, ?_, ?_, ?_⟩
    · exact List.forall_mem_cons.mpr ⟨PySem.W.mg_none_of X G z0, List.forall_mem_cons.mpr ⟨PySem.W.mg_none_of X G z1, List.forall_mem_cons.mpr ⟨PySem.W.mg_none_of X G z2, List.forall_mem_cons.mpr ⟨PySem.W.mg_none_of X G z3, List.forall_mem_cons.mpr ⟨PySem.W.mg_none_of X G z4, List.forall_mem_cons.mpr ⟨PySem.W.mg_none_of X G z5, List.forall_mem_cons.mpr ⟨PySem.W.mg_none_of X G z6, List.forall_mem_cons.mpr ⟨PySem.W.mg_none_of X G z7, List.forall_mem_cons.mpr ⟨PySem.W.mg_none_of X G z8, List.forall_mem_cons.mpr ⟨PySem.W.mg_none_of X G z9, List.forall_mem_cons.mpr ⟨PySem.W.mg_none_of X G z10, List.forall_mem_cons.mpr ⟨PySem.W.mg_none_of X G z11, fun _ hm => nomatch hm⟩⟩⟩⟩⟩⟩⟩⟩⟩⟩⟩⟩
    · exact List.forall_mem_cons.mpr ⟨pick_all (p := fun y => Cls K y ∧ NoAttr K y (Str.ofString "known")) ⟨C0, yn0_0⟩ (List.forall_mem_cons.mpr ⟨⟨C0, yn0_0⟩, fun _ hm => nomatch hm⟩), List.forall_mem_cons.mpr ⟨pick_all (p := fun y => Cls K y ∧ NoAttr K y (Str.ofString "total")) ⟨C0, yn0_1⟩ (List.forall_mem_cons.mpr ⟨⟨C0, yn0_1⟩, fun _ hm => nomatch hm⟩), fun _ hm => nomatch hm⟩⟩
    · exact List.forall_mem_cons.mpr ⟨exk_of q0 (PySem.W.mg_of X G ea0) eb0 ec0 ed0 ee0 ef0 ⟨eg0, eh0, ed0, ei0, ej0, el, em, ek0⟩, List.forall_mem_cons.mpr ⟨exk_of q1 (PySem.W.mg_of X G ea1) eb1 ec1 ed1 ee1 ef1 ⟨eg1, eh1, ed1, ei1, ej1, el, em, ek1⟩, fun _ hm => nomatch hm⟩⟩
    · exact List.forall_mem_cons.mpr ⟨List.forall_mem_cons.mpr ⟨sub_of q0 q0 s0_0 (by decide), List.forall_mem_cons.mpr ⟨sub_of q0 q1 s0_1 (by decide), fun _ hm => nomatch hm⟩⟩, List.forall_mem_cons.mpr ⟨List.forall_mem_cons.mpr ⟨sub_of q1 q0 s1_0 (by decide), List.forall_mem_cons.mpr ⟨sub_of q1 q1 s1_1 (by decide), fun _ hm => nomatch hm⟩⟩, fun _ hm => nomatch hm⟩⟩
    · have hg : ∀ y ∈ tab.glbs, GlobOk (cn K x0 x1 y0) mg y.1 y.2 := List.forall_mem_cons.mpr ⟨glb_int (PySem.W.mg_of X G oig0), List.forall_mem_cons.mpr ⟨glb_int (PySem.W.mg_of X G oig1), fun _ hm => nomatch hm⟩⟩
      exact fun x d hm => hg (x, d) hm
  have hT : ∀ e ∈ ([⟨.fn, "narrowed", "narrowed", "narrowed", ["lows", "highs", "total"], N_narrowed, st_narrowed, f0, PySem.W.fnOf "narrowed" "narrowed" (defArgs st_narrowed) (defBody st_narrowed) (defScope st_narrowed) .none kV0 dc0 pm0 an0 cd0 ct0, f_narrowed⟩,
    ⟨.fn, "is_box", "is_box", "is_box", ["box"], N_is_box, st_is_box, f1, PySem.W.fnOf "is_box" "is_box" (defArgs st_is_box) (defBody st_is_box) (defScope st_is_box) .none kV1 dc1 pm1 an1 cd1 ct1, f_is_box⟩,
    ⟨.fn, "tightened", "tightened", "tightened", ["lows", "highs", "total"], N_tightened, st_tightened, f2, PySem.W.fnOf "tightened" "tightened" (defArgs st_tightened) (defBody st_tightened) (defScope st_tightened) .none kV2 dc2 pm2 an2 cd2 ct2, f_tightened⟩,
    ⟨.fn, "tight", "tight", "tight", ["box"], N_tight, st_tight, f3, PySem.W.fnOf "tight" "tight" (defArgs st_tight) (defBody st_tight) (defScope st_tight) .none kV3 dc3 pm3 an3 cd3 ct3, f_tight⟩,
    ⟨.fn, "looks_in", "looks_in", "looks_in", ["lows", "highs"], N_looks_in, st_looks_in, f4, PySem.W.fnOf "looks_in" "looks_in" (defArgs st_looks_in) (defBody st_looks_in) (defScope st_looks_in) .none kV4 dc4 pm4 an4 cd4 ct4, f_looks_in⟩,
    ⟨.fn, "answered", "answered", "answered", ["lows", "highs", "total", "look"], N_answered, st_answered, f5, PySem.W.fnOf "answered" "answered" (defArgs st_answered) (defBody st_answered) (defScope st_answered) .none kV5 dc5 pm5 an5 cd5 ct5, f_answered⟩,
    ⟨(.init "Search"), "Search.__init__", "__init__", "Search.__init__", ["self", "total"], N_Search_init, st_Search_init, f6, PySem.W.fnOf "__init__" "Search.__init__" (defArgs st_Search_init) (defBody st_Search_init) (defScope st_Search_init) .none kV6 dc6 pm6 an6 cd6 ct6, f_Search_init⟩,
    ⟨(.mt "Search" "best"), "Search.best", "best", "Search.best", ["self", "sides"], N_Search_best, st_Search_best, f7, PySem.W.fnOf "best" "Search.best" (defArgs st_Search_best) (defBody st_Search_best) (defScope st_Search_best) .none kV7 dc7 pm7 an7 cd7 ct7, f_Search_best⟩,
    ⟨(.mt "Search" "worst"), "Search.worst", "worst", "Search.worst", ["self", "sides", "look"], N_Search_worst, st_Search_worst, f8, PySem.W.fnOf "worst" "Search.worst" (defArgs st_Search_worst) (defBody st_Search_worst) (defScope st_Search_worst) .none kV8 dc8 pm8 an8 cd8 ct8, f_Search_worst⟩,
    ⟨(.mt "Search" "plan"), "Search.plan", "plan", "Search.plan", ["self", "sides"], N_Search_plan, st_Search_plan, f9, PySem.W.fnOf "plan" "Search.plan" (defArgs st_Search_plan) (defBody st_Search_plan) (defScope st_Search_plan) .none kV9 dc9 pm9 an9 cd9 ct9, f_Search_plan⟩,
    ⟨.fn, "least", "least", "least", ["box"], N_least, st_least, f10, PySem.W.fnOf "least" "least" (defArgs st_least) (defBody st_least) (defScope st_least) .none kV10 dc10 pm10 an10 cd10 ct10, f_least⟩,
    ⟨.fn, "walked", "walked", "walked", ["plan", "world"], N_walked, st_walked, f11, PySem.W.fnOf "walked" "walked" (defArgs st_walked) (defBody st_walked) (defScope st_walked) .none kV11 dc11 pm11 an11 cd11 ct11, f_walked⟩,
    ⟨.fn, "_law_start", "_law_start", "_law_start", ["_law_script"], N__law_start, st__law_start, f12, PySem.W.fnOf "_law_start" "_law_start" (defArgs st__law_start) (defBody st__law_start) (defScope st__law_start) .none kV12 dc12 pm12 an12 cd12 ct12, f__law_start⟩,
    ⟨.fn, "_law_drawn", "_law_drawn", "_law_drawn", ["_law_state", "_law_many"], N__law_drawn, st__law_drawn, f13, PySem.W.fnOf "_law_drawn" "_law_drawn" (defArgs st__law_drawn) (defBody st__law_drawn) (defScope st__law_drawn) .none kV13 dc13 pm13 an13 cd13 ct13, f__law_drawn⟩,
    ⟨.fn, "_law_same", "_law_same", "_law_same", ["_law_found", "_law_due"], N__law_same, st__law_same, f14, PySem.W.fnOf "_law_same" "_law_same" (defArgs st__law_same) (defBody st__law_same) (defScope st__law_same) .none kV14 dc14 pm14 an14 cd14 ct14, f__law_same⟩,
    ⟨.fn, "_law_box", "_law_box", "_law_box", ["_law_state"], N__law_box, st__law_box, f15, PySem.W.fnOf "_law_box" "_law_box" (defArgs st__law_box) (defBody st__law_box) (defScope st__law_box) .none kV15 dc15 pm15 an15 cd15 ct15, f__law_box⟩,
    ⟨.fn, "_law_of", "_law_of", "_law_of", ["_law_lows", "_law_highs", "_law_total"], N__law_of, st__law_of, f16, PySem.W.fnOf "_law_of" "_law_of" (defArgs st__law_of) (defBody st__law_of) (defScope st__law_of) .none kV16 dc16 pm16 an16 cd16 ct16, f__law_of⟩,
    ⟨.fn, "_law_longer", "_law_longer", "_law_longer", ["_law_found", "_law_low", "_law_high"], N__law_longer, st__law_longer, f17, PySem.W.fnOf "_law_longer" "_law_longer" (defArgs st__law_longer) (defBody st__law_longer) (defScope st__law_longer) .none kV17 dc17 pm17 an17 cd17 ct17, f__law_longer⟩,
    ⟨.fn, "_law_is_plan", "_law_is_plan", "_law_is_plan", ["_law_plan", "_law_places"], N__law_is_plan, st__law_is_plan, f18, PySem.W.fnOf "_law_is_plan" "_law_is_plan" (defArgs st__law_is_plan) (defBody st__law_is_plan) (defScope st__law_is_plan) .none kV18 dc18 pm18 an18 cd18 ct18, f__law_is_plan⟩,
    ⟨.fn, "_law_deep", "_law_deep", "_law_deep", ["_law_plan"], N__law_deep, st__law_deep, f19, PySem.W.fnOf "_law_deep" "_law_deep" (defArgs st__law_deep) (defBody st__law_deep) (defScope st__law_deep) .none kV19 dc19 pm19 an19 cd19 ct19, f__law_deep⟩,
    ⟨.fn, "_law_settles", "_law_settles", "_law_settles", ["_law_plan", "_law_every"], N__law_settles, st__law_settles, f20, PySem.W.fnOf "_law_settles" "_law_settles" (defArgs st__law_settles) (defBody st__law_settles) (defScope st__law_settles) .none kV20 dc20 pm20 an20 cd20 ct20, f__law_settles⟩,
    ⟨.fn, "_law_left", "_law_left", "_law_left", ["_law_every", "_law_asked"], N__law_left, st__law_left, f21, PySem.W.fnOf "_law_left" "_law_left" (defArgs st__law_left) (defBody st__law_left) (defScope st__law_left) .none kV21 dc21 pm21 an21 cd21 ct21, f__law_left⟩,
    ⟨.fn, "law", "law", "law", ["_law_script"], N_law, st_law, f22, PySem.W.fnOf "law" "law" (defArgs st_law) (defBody st_law) (defScope st_law) .none kV22 dc22 pm22 an22 cd22 ct22, f_law⟩] : List Entry), EntOk K mg (cn K x0 x1 y0) prog tab lams e := by
    exact List.forall_mem_cons.mpr ⟨⟨F0, sc_narrowed, b0, fn_at rfl (PySem.W.mg_of X G a0), rfl, rfl, rfl, ck_narrowed⟩, List.forall_mem_cons.mpr ⟨⟨F1, sc_is_box, b1, fn_at rfl (PySem.W.mg_of X G a1), rfl, rfl, rfl, ck_is_box⟩, List.forall_mem_cons.mpr ⟨⟨F2, sc_tightened, b2, fn_at rfl (PySem.W.mg_of X G a2), rfl, rfl, rfl, ck_tightened⟩, List.forall_mem_cons.mpr ⟨⟨F3, sc_tight, b3, fn_at rfl (PySem.W.mg_of X G a3), rfl, rfl, rfl, ck_tight⟩, List.forall_mem_cons.mpr ⟨⟨F4, sc_looks_in, b4, fn_at rfl (PySem.W.mg_of X G a4), rfl, rfl, rfl, ck_looks_in⟩, List.forall_mem_cons.mpr ⟨⟨F5, sc_answered, b5, fn_at rfl (PySem.W.mg_of X G a5), rfl, rfl, rfl, ck_answered⟩, List.forall_mem_cons.mpr ⟨⟨F6, sc_Search_init, b6, init_of rfl (show "Search.__init__" = "Search" ++ ".__init__" by decide +kernel) r0 (PySem.W.mg_of X G ya0) ⟨yf0, a6, i6, yg0⟩, rfl, rfl, rfl, ck_Search_init⟩, List.forall_mem_cons.mpr ⟨⟨F7, sc_Search_best, b7, mt_of rfl (show "Search.best" = "Search" ++ "." ++ "best" by decide +kernel) r0 C0 ⟨a7, i7, k7⟩, rfl, rfl, rfl, ck_Search_best⟩, List.forall_mem_cons.mpr ⟨⟨F8, sc_Search_worst, b8, mt_of rfl (show "Search.worst" = "Search" ++ "." ++ "worst" by decide +kernel) r0 C0 ⟨a8, i8, k8⟩, rfl, rfl, rfl, ck_Search_worst⟩, List.forall_mem_cons.mpr ⟨⟨F9, sc_Search_plan, b9, mt_of rfl (show "Search.plan" = "Search" ++ "." ++ "plan" by decide +kernel) r0 C0 ⟨a9, i9, k9⟩, rfl, rfl, rfl, ck_Search_plan⟩, List.forall_mem_cons.mpr ⟨⟨F10, sc_least, b10, fn_at rfl (PySem.W.mg_of X G a10), rfl, rfl, rfl, ck_least⟩, List.forall_mem_cons.mpr ⟨⟨F11, sc_walked, b11, fn_at rfl (PySem.W.mg_of X G a11), rfl, rfl, rfl, ck_walked⟩, List.forall_mem_cons.mpr ⟨⟨F12, sc__law_start, b12, fn_at rfl (PySem.W.mg_of X G a12), rfl, rfl, rfl, ck__law_start⟩, List.forall_mem_cons.mpr ⟨⟨F13, sc__law_drawn, b13, fn_at rfl (PySem.W.mg_of X G a13), rfl, rfl, rfl, ck__law_drawn⟩, List.forall_mem_cons.mpr ⟨⟨F14, sc__law_same, b14, fn_at rfl (PySem.W.mg_of X G a14), rfl, rfl, rfl, ck__law_same⟩, List.forall_mem_cons.mpr ⟨⟨F15, sc__law_box, b15, fn_at rfl (PySem.W.mg_of X G a15), rfl, rfl, rfl, ck__law_box⟩, List.forall_mem_cons.mpr ⟨⟨F16, sc__law_of, b16, fn_at rfl (PySem.W.mg_of X G a16), rfl, rfl, rfl, ck__law_of⟩, List.forall_mem_cons.mpr ⟨⟨F17, sc__law_longer, b17, fn_at rfl (PySem.W.mg_of X G a17), rfl, rfl, rfl, ck__law_longer⟩, List.forall_mem_cons.mpr ⟨⟨F18, sc__law_is_plan, b18, fn_at rfl (PySem.W.mg_of X G a18), rfl, rfl, rfl, ck__law_is_plan⟩, List.forall_mem_cons.mpr ⟨⟨F19, sc__law_deep, b19, fn_at rfl (PySem.W.mg_of X G a19), rfl, rfl, rfl, ck__law_deep⟩, List.forall_mem_cons.mpr ⟨⟨F20, sc__law_settles, b20, fn_at rfl (PySem.W.mg_of X G a20), rfl, rfl, rfl, ck__law_settles⟩, List.forall_mem_cons.mpr ⟨⟨F21, sc__law_left, b21, fn_at rfl (PySem.W.mg_of X G a21), rfl, rfl, rfl, ck__law_left⟩, List.forall_mem_cons.mpr ⟨⟨F22, sc_law, b22, fn_at rfl (PySem.W.mg_of X G a22), rfl, rfl, rfl, ck_law⟩, fun _ hm => nomatch hm⟩⟩⟩⟩⟩⟩⟩⟩⟩⟩⟩⟩⟩⟩⟩⟩⟩⟩⟩⟩⟩⟩⟩
  refine ⟨PySem.W.fnOf "law" "law" (defArgs st_law) (defBody st_law) (defScope st_law) .none kV22 dc22 pm22 an22 cd22 ct22, fun s v => .of_eq rfl, fun base _ _ => ?_⟩
  have hn : ∀ e ∈ ([⟨.fn, "narrowed", "narrowed", "narrowed", ["lows", "highs", "total"], N_narrowed, st_narrowed, f0, PySem.W.fnOf "narrowed" "narrowed" (defArgs st_narrowed) (defBody st_narrowed) (defScope st_narrowed) .none kV0 dc0 pm0 an0 cd0 ct0, f_narrowed⟩,
    ⟨.fn, "is_box", "is_box", "is_box", ["box"], N_is_box, st_is_box, f1, PySem.W.fnOf "is_box" "is_box" (defArgs st_is_box) (defBody st_is_box) (defScope st_is_box) .none kV1 dc1 pm1 an1 cd1 ct1, f_is_box⟩,
    ⟨.fn, "tightened", "tightened", "tightened", ["lows", "highs", "total"], N_tightened, st_tightened, f2, PySem.W.fnOf "tightened" "tightened" (defArgs st_tightened) (defBody st_tightened) (defScope st_tightened) .none kV2 dc2 pm2 an2 cd2 ct2, f_tightened⟩,
    ⟨.fn, "tight", "tight", "tight", ["box"], N_tight, st_tight, f3, PySem.W.fnOf "tight" "tight" (defArgs st_tight) (defBody st_tight) (defScope st_tight) .none kV3 dc3 pm3 an3 cd3 ct3, f_tight⟩,
    ⟨.fn, "looks_in", "looks_in", "looks_in", ["lows", "highs"], N_looks_in, st_looks_in, f4, PySem.W.fnOf "looks_in" "looks_in" (defArgs st_looks_in) (defBody st_looks_in) (defScope st_looks_in) .none kV4 dc4 pm4 an4 cd4 ct4, f_looks_in⟩,
    ⟨.fn, "answered", "answered", "answered", ["lows", "highs", "total", "look"], N_answered, st_answered, f5, PySem.W.fnOf "answered" "answered" (defArgs st_answered) (defBody st_answered) (defScope st_answered) .none kV5 dc5 pm5 an5 cd5 ct5, f_answered⟩,
    ⟨(.init "Search"), "Search.__init__", "__init__", "Search.__init__", ["self", "total"], N_Search_init, st_Search_init, f6, PySem.W.fnOf "__init__" "Search.__init__" (defArgs st_Search_init) (defBody st_Search_init) (defScope st_Search_init) .none kV6 dc6 pm6 an6 cd6 ct6, f_Search_init⟩,
    ⟨(.mt "Search" "best"), "Search.best", "best", "Search.best", ["self", "sides"], N_Search_best, st_Search_best, f7, PySem.W.fnOf "best" "Search.best" (defArgs st_Search_best) (defBody st_Search_best) (defScope st_Search_best) .none kV7 dc7 pm7 an7 cd7 ct7, f_Search_best⟩,
    ⟨(.mt "Search" "worst"), "Search.worst", "worst", "Search.worst", ["self", "sides", "look"], N_Search_worst, st_Search_worst, f8, PySem.W.fnOf "worst" "Search.worst" (defArgs st_Search_worst) (defBody st_Search_worst) (defScope st_Search_worst) .none kV8 dc8 pm8 an8 cd8 ct8, f_Search_worst⟩,
    ⟨(.mt "Search" "plan"), "Search.plan", "plan", "Search.plan", ["self", "sides"], N_Search_plan, st_Search_plan, f9, PySem.W.fnOf "plan" "Search.plan" (defArgs st_Search_plan) (defBody st_Search_plan) (defScope st_Search_plan) .none kV9 dc9 pm9 an9 cd9 ct9, f_Search_plan⟩,
    ⟨.fn, "least", "least", "least", ["box"], N_least, st_least, f10, PySem.W.fnOf "least" "least" (defArgs st_least) (defBody st_least) (defScope st_least) .none kV10 dc10 pm10 an10 cd10 ct10, f_least⟩,
    ⟨.fn, "walked", "walked", "walked", ["plan", "world"], N_walked, st_walked, f11, PySem.W.fnOf "walked" "walked" (defArgs st_walked) (defBody st_walked) (defScope st_walked) .none kV11 dc11 pm11 an11 cd11 ct11, f_walked⟩,
    ⟨.fn, "_law_start", "_law_start", "_law_start", ["_law_script"], N__law_start, st__law_start, f12, PySem.W.fnOf "_law_start" "_law_start" (defArgs st__law_start) (defBody st__law_start) (defScope st__law_start) .none kV12 dc12 pm12 an12 cd12 ct12, f__law_start⟩,
    ⟨.fn, "_law_drawn", "_law_drawn", "_law_drawn", ["_law_state", "_law_many"], N__law_drawn, st__law_drawn, f13, PySem.W.fnOf "_law_drawn" "_law_drawn" (defArgs st__law_drawn) (defBody st__law_drawn) (defScope st__law_drawn) .none kV13 dc13 pm13 an13 cd13 ct13, f__law_drawn⟩,
    ⟨.fn, "_law_same", "_law_same", "_law_same", ["_law_found", "_law_due"], N__law_same, st__law_same, f14, PySem.W.fnOf "_law_same" "_law_same" (defArgs st__law_same) (defBody st__law_same) (defScope st__law_same) .none kV14 dc14 pm14 an14 cd14 ct14, f__law_same⟩,
    ⟨.fn, "_law_box", "_law_box", "_law_box", ["_law_state"], N__law_box, st__law_box, f15, PySem.W.fnOf "_law_box" "_law_box" (defArgs st__law_box) (defBody st__law_box) (defScope st__law_box) .none kV15 dc15 pm15 an15 cd15 ct15, f__law_box⟩,
    ⟨.fn, "_law_of", "_law_of", "_law_of", ["_law_lows", "_law_highs", "_law_total"], N__law_of, st__law_of, f16, PySem.W.fnOf "_law_of" "_law_of" (defArgs st__law_of) (defBody st__law_of) (defScope st__law_of) .none kV16 dc16 pm16 an16 cd16 ct16, f__law_of⟩,
    ⟨.fn, "_law_longer", "_law_longer", "_law_longer", ["_law_found", "_law_low", "_law_high"], N__law_longer, st__law_longer, f17, PySem.W.fnOf "_law_longer" "_law_longer" (defArgs st__law_longer) (defBody st__law_longer) (defScope st__law_longer) .none kV17 dc17 pm17 an17 cd17 ct17, f__law_longer⟩,
    ⟨.fn, "_law_is_plan", "_law_is_plan", "_law_is_plan", ["_law_plan", "_law_places"], N__law_is_plan, st__law_is_plan, f18, PySem.W.fnOf "_law_is_plan" "_law_is_plan" (defArgs st__law_is_plan) (defBody st__law_is_plan) (defScope st__law_is_plan) .none kV18 dc18 pm18 an18 cd18 ct18, f__law_is_plan⟩,
    ⟨.fn, "_law_deep", "_law_deep", "_law_deep", ["_law_plan"], N__law_deep, st__law_deep, f19, PySem.W.fnOf "_law_deep" "_law_deep" (defArgs st__law_deep) (defBody st__law_deep) (defScope st__law_deep) .none kV19 dc19 pm19 an19 cd19 ct19, f__law_deep⟩,
    ⟨.fn, "_law_settles", "_law_settles", "_law_settles", ["_law_plan", "_law_every"], N__law_settles, st__law_settles, f20, PySem.W.fnOf "_law_settles" "_law_settles" (defArgs st__law_settles) (defBody st__law_settles) (defScope st__law_settles) .none kV20 dc20 pm20 an20 cd20 ct20, f__law_settles⟩,
    ⟨.fn, "_law_left", "_law_left", "_law_left", ["_law_every", "_law_asked"], N__law_left, st__law_left, f21, PySem.W.fnOf "_law_left" "_law_left" (defArgs st__law_left) (defBody st__law_left) (defScope st__law_left) .none kV21 dc21 pm21 an21 cd21 ct21, f__law_left⟩,
    ⟨.fn, "law", "law", "law", ["_law_script"], N_law, st_law, f22, PySem.W.fnOf "law" "law" (defArgs st_law) (defBody st_law) (defScope st_law) .none kV22 dc22 pm22 an22 cd22 ct22, f_law⟩] : List Entry), e.kind.isM = false ∧ e.kind.isL = false := List.forall_mem_cons.mpr ⟨⟨rfl, rfl⟩, List.forall_mem_cons.mpr ⟨⟨rfl, rfl⟩, List.forall_mem_cons.mpr ⟨⟨rfl, rfl⟩, List.forall_mem_cons.mpr ⟨⟨rfl, rfl⟩, List.forall_mem_cons.mpr ⟨⟨rfl, rfl⟩, List.forall_mem_cons.mpr ⟨⟨rfl, rfl⟩, List.forall_mem_cons.mpr ⟨⟨rfl, rfl⟩, List.forall_mem_cons.mpr ⟨⟨rfl, rfl⟩, List.forall_mem_cons.mpr ⟨⟨rfl, rfl⟩, List.forall_mem_cons.mpr ⟨⟨rfl, rfl⟩, List.forall_mem_cons.mpr ⟨⟨rfl, rfl⟩, List.forall_mem_cons.mpr ⟨⟨rfl, rfl⟩, List.forall_mem_cons.mpr ⟨⟨rfl, rfl⟩, List.forall_mem_cons.mpr ⟨⟨rfl, rfl⟩, List.forall_mem_cons.mpr ⟨⟨rfl, rfl⟩, List.forall_mem_cons.mpr ⟨⟨rfl, rfl⟩, List.forall_mem_cons.mpr ⟨⟨rfl, rfl⟩, List.forall_mem_cons.mpr ⟨⟨rfl, rfl⟩, List.forall_mem_cons.mpr ⟨⟨rfl, rfl⟩, List.forall_mem_cons.mpr ⟨⟨rfl, rfl⟩, List.forall_mem_cons.mpr ⟨⟨rfl, rfl⟩, List.forall_mem_cons.mpr ⟨⟨rfl, rfl⟩, List.forall_mem_cons.mpr ⟨⟨rfl, rfl⟩, fun _ hm => nomatch hm⟩⟩⟩⟩⟩⟩⟩⟩⟩⟩⟩⟩⟩⟩⟩⟩⟩⟩⟩⟩⟩⟩⟩
  have Z := all_ok (P := l.prog) (w := w) (base := base) (m := 1000000) (c := (cn K x0 x1 y0)) rfl rfl rfl rfl rfl rfl rfl hn hb hT 100 _ (.tail _ (.tail _ (.tail _ (.tail _ (.tail _ (.tail _ (.tail _ (.tail _ (.tail _ (.tail _ (.tail _ (.tail _ (.tail _ (.tail _ (.tail _ (.tail _ (.tail _ (.tail _ (.tail _ (.tail _ (.tail _ (.tail _ (.head _)))))))))))))))))))))))
  exact Z.imp fun vs H Q E hq => hq (cn K x0 x1 y0) rfl rfl
end OI
open PySem PySem.W PyProof.Rows
set_option maxHeartbeats 0 in
theorem PySem.Challenge.cw_numbergaps_k11_whole_a_plan_settles_holds : PySem.Challenge.rw_numbergaps_k11_whole_a_plan_settles.Holds := by
  w_on; o_law; k_head; (case hw => w_witness2)
  k_fill
  refine L2.walk_ofB (l := PySem.Challenge.rw_numbergaps_k11_whole_a_plan_settles) (n := 63) (k := 200) (x := "_law_script") (CX := fun w => L2.CX PySem.Challenge.pw_numbergaps_k11_whole_a_plan_settles w) (sp := fun w => OI.spLaw _) rfl (by decide) rfl ⟨rfl, by decide, by decide⟩ (fun w h Y => PySem.W.kIn_of Y) ?F (fun _ H a ns h1 h2 h3 h4 c hc ht => OI.law_sp hc.symm ht OI.pure_law H a ns h1 h2 h3 h4) (fun w H s e s' hx => by obtain ⟨_, _, _, _, _, _, _, _, _, _, _, _, z⟩ := hx; exact z)
  case F =>
    intro w mg fa h KX G hmg
    refine' OI.all_mk (l := PySem.Challenge.rw_numbergaps_k11_whole_a_plan_settles) KX G hmg ?ea0 ?eb0 ?ec0 ?ed0 ?ee0 ?ef0 ?eg0 ?eh0 ?ei0 ?ej0 ?ek0 ?ea1 ?eb1 ?ec1 ?ed1 ?ee1 ?ef1 ?eg1 ?eh1 ?ei1 ?ej1 ?ek1 ?el ?em ?s0_0 ?s0_1 ?s1_0 ?s1_1 ?ya0 ?yb0 ?yc0 ?yd0 ?ye0 ?yf0 ?yg0 ?yn0_0 ?yn0_1 ?a0 ?l0 ?c0 ?k0 ?a1 ?l1 ?c1 ?k1 ?a2 ?l2 ?c2 ?k2 ?a3 ?l3 ?c3 ?k3 ?a4 ?l4 ?c4 ?k4 ?a5 ?l5 ?c5 ?k5 ?a6 ?i6 ?l6 ?c6 ?k6 ?a7 ?i7 ?l7 ?c7 ?k7 ?a8 ?i8 ?l8 ?c8 ?k8 ?a9 ?i9 ?l9 ?c9 ?k9 ?a10 ?l10 ?c10 ?k10 ?a11 ?l11 ?c11 ?k11 ?a12 ?l12 ?c12 ?k12 ?a13 ?l13 ?c13 ?k13 ?a14 ?l14 ?c14 ?k14 ?a15 ?l15 ?c15 ?k15 ?a16 ?l16 ?c16 ?k16 ?a17 ?l17 ?c17 ?k17 ?a18 ?l18 ?c18 ?k18 ?a19 ?l19 ?c19 ?k19 ?a20 ?l20 ?c20 ?k20 ?a21 ?l21 ?c21 ?k21 ?a22 ?l22 ?c22 ?k22 ?oig0 ?oig1 ?z0 ?z1 ?z2 ?z3 ?z4 ?z5 ?z6 ?z7 ?z8 ?z9 ?z10 ?z11
    (case ea0 => k_is); (case eb0 => k_is); (case ec0 => k_exc); (case ed0 => k_is); (case ee0 => k_is); (case ef0 => k_is); (case eg0 => k_is); (case eh0 => k_is); (case ei0 => k_is); (case ej0 => k_is); (case ek0 => k_is); (case ea1 => k_is); (case eb1 => k_is); (case ec1 => k_exc); (case ed1 => k_is); (case ee1 => k_is); (case ef1 => k_is); (case eg1 => k_is); (case eh1 => k_is); (case ei1 => k_is); (case ej1 => k_is); (case ek1 => k_is); (case el => k_is); (case em => k_is); (case s0_0 => k_is); (case s0_1 => k_is); (case s1_0 => k_is); (case s1_1 => k_is); (case ya0 => k_is); (case yb0 => k_is); (case yc0 => k_is); (case yd0 => k_is); (case ye0 => k_is); (case yf0 => k_is); (case yg0 => k_is); (case yn0_0 => k_is); (case yn0_1 => k_is); (case a0 => k_is); (case l0 => k_is); (case c0 => k_is); (case k0 => k_is); (case a1 => k_is); (case l1 => k_is); (case c1 => k_is); (case k1 => k_is); (case a2 => k_is); (case l2 => k_is); (case c2 => k_is); (case k2 => k_is); (case a3 => k_is); (case l3 => k_is); (case c3 => k_is); (case k3 => k_is); (case a4 => k_is); (case l4 => k_is); (case c4 => k_is); (case k4 => k_is); (case a5 => k_is); (case l5 => k_is); (case c5 => k_is); (case k5 => k_is); (case a6 => k_is); (case i6 => k_is); (case l6 => k_is); (case c6 => k_is); (case k6 => k_is); (case a7 => k_is); (case i7 => k_is); (case l7 => k_is); (case c7 => k_is); (case k7 => k_is); (case a8 => k_is); (case i8 => k_is); (case l8 => k_is); (case c8 => k_is); (case k8 => k_is); (case a9 => k_is); (case i9 => k_is); (case l9 => k_is); (case c9 => k_is); (case k9 => k_is); (case a10 => k_is); (case l10 => k_is); (case c10 => k_is); (case k10 => k_is); (case a11 => k_is); (case l11 => k_is); (case c11 => k_is); (case k11 => k_is); (case a12 => k_is); (case l12 => k_is); (case c12 => k_is); (case k12 => k_is); (case a13 => k_is); (case l13 => k_is); (case c13 => k_is); (case k13 => k_is); (case a14 => k_is); (case l14 => k_is); (case c14 => k_is); (case k14 => k_is); (case a15 => k_is); (case l15 => k_is); (case c15 => k_is); (case k15 => k_is); (case a16 => k_is); (case l16 => k_is); (case c16 => k_is); (case k16 => k_is); (case a17 => k_is); (case l17 => k_is); (case c17 => k_is); (case k17 => k_is); (case a18 => k_is); (case l18 => k_is); (case c18 => k_is); (case k18 => k_is); (case a19 => k_is); (case l19 => k_is); (case c19 => k_is); (case k19 => k_is); (case a20 => k_is); (case l20 => k_is); (case c20 => k_is); (case k20 => k_is); (case a21 => k_is); (case l21 => k_is); (case c21 => k_is); (case k21 => k_is); (case a22 => k_is); (case l22 => k_is); (case c22 => k_is); (case k22 => k_is); (case oig0 => k_is); (case oig1 => k_is); (case z0 => k_is); (case z1 => k_is); (case z2 => k_is); (case z3 => k_is); (case z4 => k_is); (case z5 => k_is); (case z6 => k_is); (case z7 => k_is); (case z8 => k_is); (case z9 => k_is); (case z10 => k_is); (case z11 => k_is)
