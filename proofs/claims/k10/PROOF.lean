import PyProof.Rows.All
import Wide.All
import OpenK.AllK
import Wide.FinOn
import HandS.ForMost
import HandS.ForExc
import HandS.Small
import HandS.WordsExc
import HandS.TupMul
import PyProof.Lay0
import HandS.Wide
import HandS.TupAny
import HandS.SortInts
import HandS.Style
import HandS.Deep
import HandS.IsInst
import HandS.Text
import HandS.Dict
import HandS.EndBits
import PySem.Challenge.RW_numbergaps_k10_plans_walked
set_option linter.all false
set_option autoImplicit false
set_option Elab.async false
/-! OIa: the ownership interpreter: values, store, my own syntax, its run. Plain Lean; nothing of the machine. -/
namespace OI
open PySem (Str PyData)

/-- data by value: frozen lists and dicts among them; loc: a shared object of the store -/
inductive D where
  | non | bl (b : Bool) | int (i : Int) | str (x : Str)
  | tup (xs : List D) | lst (xs : List D) | dic (t : Bool) (kvs : List (D × D))
  | scr (ns : List Int) | loc (n : Nat) | exn (c : String) | lam (f : String) (cap : List D)
  deriving Inhabited

mutual
def D.beq : D → D → Bool
  | .non, .non => true
  | .bl a, .bl b => a == b
  | .int a, .int b => a == b
  | .str a, .str b => a == b
  | .tup a, .tup b => D.beqs a b
  | .lst a, .lst b => D.beqs a b
  | .dic t a, .dic u b => t == u && D.beqk a b
  | .scr a, .scr b => a == b
  | .loc a, .loc b => a == b
  | .exn a, .exn b => a == b
  | .lam a c, .lam b d => a == b && D.beqs c d
  | _, _ => false
def D.beqs : List D → List D → Bool
  | [], [] => true
  | x :: xs, y :: ys => D.beq x y && D.beqs xs ys
  | _, _ => false
def D.beqk : List (D × D) → List (D × D) → Bool
  | [], [] => true
  | (a, b) :: xs, (c, d) :: ys => D.beq a c && D.beq b d && D.beqk xs ys
  | _, _ => false
end
mutual
theorem D.beq_iff : ∀ a b : D, D.beq a b = true ↔ a = b
  | .non, b => by cases b <;> simp [D.beq]
  | .bl _, b => by cases b <;> simp [D.beq]
  | .int _, b => by cases b <;> simp [D.beq]
  | .str _, b => by cases b <;> simp [D.beq]
  | .tup xs, b => by
    cases b <;> simp [D.beq]
    exact D.beqs_iff xs _
  | .lst xs, b => by
    cases b <;> simp [D.beq]
    exact D.beqs_iff xs _
  | .dic t xs, b => by
    cases b <;> simp [D.beq]
    intro _
    exact D.beqk_iff xs _
  | .scr _, b => by cases b <;> simp [D.beq]
  | .loc _, b => by cases b <;> simp [D.beq]
  | .exn _, b => by cases b <;> simp [D.beq]
  | .lam _ xs, b => by
    cases b <;> simp [D.beq]
    intro _
    exact D.beqs_iff xs _
theorem D.beqs_iff : ∀ a b : List D, D.beqs a b = true ↔ a = b
  | [], b => by cases b <;> simp [D.beqs]
  | x :: xs, b => by
    cases b with
    | nil => simp [D.beqs]
    | cons y ys => simp [D.beqs, D.beq_iff x y, D.beqs_iff xs ys]
theorem D.beqk_iff : ∀ a b : List (D × D), D.beqk a b = true ↔ a = b
  | [], b => by cases b <;> simp [D.beqk]
  | (x, y) :: xs, b => by
    cases b with
    | nil => simp [D.beqk]
    | cons z zs =>
      obtain ⟨u, v⟩ := z
      simp [D.beqk, D.beq_iff x u, D.beq_iff y v, D.beqk_iff xs zs]
end
instance : DecidableEq D := fun a b => if h : D.beq a b = true then .isTrue ((D.beq_iff a b).1 h) else .isFalse fun e => h ((D.beq_iff a b).2 e)

/-- what a slot, a field or a result holds: data, or a container of its own -/
inductive M where
  | val (d : D) | ol (xs : List D) | od (t : Bool) (kvs : List (D × D))
  deriving DecidableEq, Inhabited
def M.frz : M → D
  | .val d => d
  | .ol xs => .lst xs
  | .od t kvs => .dic t kvs
def M.isVal : M → Bool
  | .val _ => true
  | _ => false
inductive SObj where
  | ins (c : String) (fs : List (String × M)) | lst (xs : List D) | dic (t : Bool) (kvs : List (D × D))
  deriving DecidableEq, Inhabited
structure Ent where
  o : SObj
  v : Nat
  deriving DecidableEq, Inhabited
abbrev Store := List Ent
abbrev Env := List (Option M)
/-- whose a container is -/
inductive Pl where
  | slot (i : Nat) | fld (n : Nat) (f : String) | obj (n : Nat) | tmp | oth
  deriving DecidableEq, Inhabited
/-- where a walk's source stands, if it may change: an object of the store, a slot -/
inductive Src where
  | ent (n : Nat) | slot (i : Nat)
  deriving DecidableEq, Inhabited
def Pl.walk : Pl → List Src
  | .fld n _ => [.ent n]
  | .obj n => [.ent n]
  | .slot i => [.slot i]
  | _ => []
def Pl.src : Pl → Option Nat
  | .fld n _ => some n
  | .obj n => some n
  | _ => none

inductive Res (α : Type) where
  | ok (a : α) (e : Env) (s : Store)
  | err (c : String) (e : Env) (s : Store)
  | bad
  deriving Inhabited
def Res.bind {α β : Type} (r : Res α) (f : α → Env → Store → Res β) : Res β :=
  match r with
  | .ok a e s => f a e s
  | .err c e s => .err c e s
  | .bad => .bad
inductive RR where
  | ok (m : M) (s : Store)
  | err (c : String) (s : Store)
  | bad
  deriving Inhabited
abbrev Runs := String → List D → Store → RR

/-! ### the syntax -/
inductive BOp where
  | add | sub | mul | fdiv | mod | pow
  deriving DecidableEq, Inhabited
inductive COp where
  | eq | ne | lt | le | gt | ge | isin | nin
  deriving DecidableEq, Inhabited
inductive Ty where
  | tup | lst | str | bl | int | own (c : String) | valueError
  deriving DecidableEq, Inhabited
/-- a target: a name, or names of a tuple -/
inductive Tg where
  | one (i : Nat) | many (is : List Nat)
  deriving DecidableEq, Inhabited
mutual
inductive IE where
  | var (i : Nat)
  | cst (d : D)
  | glob (x : String) (d : D)
  | bin (op : BOp) (a b : IE)
  | neg (a : IE)
  | cmp (op : COp) (a b : IE)
  | chain (op op2 : COp) (a b c : IE)
  | isN (neg : Bool) (a : IE)
  | isB (neg : Bool) (a : IE) (b : Bool)
  | both (a b : IE)
  | either (a b : IE)
  | nott (a : IE)
  | ife (c a b : IE)
  | tup (es : IEs)
  | lst (es : IEs)
  | dct (t : Bool) (ps : IPs)
  | idx (a b : IE)
  | slc (a : IE) (lo hi : IO)
  | attr (a : IE) (f : String)
  | call (f : String) (es : IEs)
  | new (c : String) (es : IEs)
  | meth (o : IE) (c m : String) (es : IEs)
  | bi1 (f : String) (a : IE)
  | bi2 (f : String) (a b : IE)
  | bi3 (f : String) (a b c : IE)
  | bm1 (m : String) (o a : IE)
  | bm2 (m : String) (o a b : IE)
  | isi (a : IE) (one : Bool) (ts : List Ty)
  | lrange (a b : IE)
  | lc (elt : IE) (tg : Tg) (it : It) (c : IO) (own : List Nat)
  | share (a : IE)
  | lam (f : String) (caps : IEs)
  | app (a : IE)
  | chain3 (op op2 op3 : COp) (a b c d : IE)
inductive IEs where
  | nil
  | cons (a : IE) (r : IEs)
inductive IPs where
  | nil
  | cons (k v : IE) (r : IPs)
inductive IO where
  | no
  | yes (a : IE)
inductive It where
  | of (e : IE)
  | rng1 (a : IE)
  | rng2 (a b : IE)
  | rng3 (a b c : IE)
  | zip (a b : IE)
end
mutual
inductive IS where
  | asg (t : Tg) (e : IE)
  | pop (t : Nat) (o : IE)
  | setA (o : IE) (f : String) (e : IE)
  | setI (o i e : IE)
  | ret (e : IE)
  | ifs (c : IE) (a b : ISs)
  | expr (e : IE)
  | mut0 (m : String) (o : IE)
  | mut1 (m : String) (o a : IE)
  | fors (tg : Tg) (it : It) (b : ISs)
  | whil (c : IE) (b : ISs)
  | rais (c : String)
  | tryA (b : ISs) (c : String) (i : Nat) (h : ISs)
  | tryM (b : ISs) (hs : IHs)
  | pass
inductive ISs where
  | nil
  | cons (a : IS) (r : ISs)
inductive IHs where
  | nil
  | cons (c : String) (b : ISs) (r : IHs)
end
structure Fn where
  np : Nat
  ns : Nat
  body : ISs
abbrev Prog := List (String × Fn)

/-! ### plain operations -/
def LIM : Nat := 16777216
mutual
def toPy : D → PyData
  | .non => .none
  | .bl b => .bool b
  | .int i => .int i
  | .str x => .str x
  | .tup xs => .tuple (toPys xs)
  | .lst xs => .list (toPys xs)
  | .scr ns => .list (ns.map .int)
  | .dic _ _ => .dict []
  | .loc _ => .dict []
  | .exn _ => .dict []
  | .lam _ _ => .dict []
def toPys : List D → List PyData
  | [] => []
  | x :: xs => toPy x :: toPys xs
end
def D.lay (d : D) : Bool := (toPy d).canLay0
def D.deep (d : D) : Nat := (toPy d).depth
def eqv (d e : D) : Bool := PyData.eqv (toPy d) (toPy e)
def cmpOk (d e : D) : Bool := d.lay && e.lay && decide (min d.deep e.deep ≤ 64)

/-- the items of a list (frozen, own, the script) -/
def M.lst? : M → Option (List D)
  | .val (.lst xs) => some xs
  | .val (.scr ns) => some (ns.map .int)
  | .ol xs => some xs
  | _ => none
/-- .. without the script -/
def M.lst1? : M → Option (List D)
  | .val (.lst xs) => some xs
  | .ol xs => some xs
  | _ => none
def M.dic? : M → Option (Bool × List (D × D))
  | .val (.dic t kvs) => some (t, kvs)
  | .od t kvs => some (t, kvs)
  | _ => none
/-- list or tuple -/
def M.seq? : M → Option (List D)
  | .val (.tup xs) => some xs
  | m => m.lst?

/-- keys of a dict of kind false: ints and texts; of kind true: tuples (nested) of ints -/
def D.flatKey : D → Bool
  | .int _ => true
  | .str _ => true
  | _ => false
mutual
def D.tupKey : D → Bool
  | .tup xs => D.tupKeys xs
  | _ => false
def D.tupKeys : List D → Bool
  | [] => true
  | .int _ :: r => D.tupKeys r
  | .tup xs :: r => D.tupKeys xs && D.tupKeys r
  | _ :: _ => false
end
mutual
def D.kdeep : D → Nat
  | .tup xs => D.kdeeps xs + 1
  | _ => 0
def D.kdeeps : List D → Nat
  | [] => 0
  | x :: r => max (D.kdeep x) (D.kdeeps r)
end
def keyOk (t : Bool) (k : D) : Bool := if t then k.tupKey && decide (k.kdeep ≤ 4) else k.flatKey
def dget (kvs : List (D × D)) (k : D) : Option D := (kvs.find? fun p => decide (p.1 = k)).map (·.2)
def dput (kvs : List (D × D)) (k v : D) : List (D × D) :=
  if (kvs.any fun p => decide (p.1 = k)) = true then kvs.map (fun p => if p.1 = k then (p.1, v) else p) else kvs ++ [(k, v)]
def dmerge (kvs more : List (D × D)) : List (D × D) := more.foldl (fun acc p => dput acc p.1 p.2) kvs

def strAt (x : Str) (i : Int) : Option D := (L2.atI x.cps.toList i).map fun c => .str ⟨#[c]⟩
def signs (x : Str) : List D := x.cps.toList.map fun c => .str ⟨#[c]⟩
def cutD (xs : List D) (lo hi : Option Int) : List D := (xs.drop (HT.sIx xs.length 0 lo)).take (HT.sIx xs.length xs.length hi - HT.sIx xs.length 0 lo)

def addM (a b : M) : Option M :=
  match a, b with
  | .val (.int i), .val (.int j) => some (.val (.int (i + j)))
  | .val (.str x), .val (.str y) => if x.length + y.length ≤ LIM then some (.val (.str (x ++ y))) else none
  | .val (.tup xs), .val (.tup ys) => if xs.length + ys.length ≤ LIM then some (.val (.tup (xs ++ ys))) else none
  | a, b => match a.lst1?, b.lst1? with
    | some xs, some ys => if xs.length + ys.length ≤ LIM then some (.ol (xs ++ ys)) else none
    | _, _ => none
def mulM (a b : M) : Option M :=
  match a, b with
  | .val (.int i), .val (.int j) => if (-(2 ^ 64) < i ∧ i < 2 ^ 64) ∨ (-(2 ^ 64) < j ∧ j < 2 ^ 64) then some (.val (.int (i * j))) else none
  | .val (.tup xs), .val (.int k) => if 2 ≤ k ∧ k ≤ 1000 ∧ 0 < xs.length ∧ xs.length ≤ 1000 then some (.val (.tup (List.replicate k.toNat xs).flatten)) else none
  | a, .val (.int k) => match a.lst1? with
    | some xs => if 0 ≤ k ∧ k < 2 ^ 62 ∧ xs.length * k.toNat ≤ LIM then some (.ol (List.replicate k.toNat xs).flatten) else none
    | _ => none
  | _, _ => none
def intM (f : Int → Int → Option Int) (a b : M) : Option M :=
  match a, b with
  | .val (.int i), .val (.int j) => (f i j).map fun k => .val (.int k)
  | _, _ => none
def bin (op : BOp) : M → M → Option M :=
  match op with
  | .add => addM
  | .mul => mulM
  | .sub => intM fun i j => some (i - j)
  | .fdiv => intM fun i j => if 0 < j ∧ j.natAbs.log2 < 9000 then some (i / j) else none
  | .mod => intM fun i j => if 0 < j then some (i % j) else none
  | .pow => intM fun i j => if 0 ≤ j ∧ j ≤ 1000000 ∧ i.natAbs < 2 ^ 64 then some (i ^ j.toNat) else none

def cmpI (op : COp) (i j : Int) : Option Bool :=
  match op with
  | .lt => some (decide (i < j))
  | .le => some (decide (i ≤ j))
  | .gt => some (decide (j < i))
  | .ge => some (decide (j ≤ i))
  | _ => none
def D.flat : D → Bool
  | .non => true
  | .bl _ => true
  | .int _ => true
  | .str _ => true
  | _ => false
def isIn (a b : M) : Option Bool :=
  match a with
  | .val d => match b with
    | .val (.str y) => match d with
      | .str x => if x.length = 1 then some (decide (x.cps.getD 0 0 ∈ y.cps.toList)) else none
      | _ => none
    | b => match b.dic? with
      | some (t, kvs) => if keyOk t d then some (dget kvs d).isSome else none
      | none => match b.seq? with
        | some ys => if d.flat && ys.all D.flat then some (ys.any fun y => eqv y d)
          else if b.lst?.isSome && d.lay && (D.lst ys).lay && decide (d.deep ≤ 60) then some (ys.any fun y => eqv y d) else none
        | none => none
  | _ => none
def eqB (d e : D) : Option Bool :=
  match d, e with
  | .str x, .str y => some (decide (x = y))
  | _, _ => if cmpOk d e then some (eqv d e) else none
def cmp (op : COp) (a b : M) : Option Bool :=
  match op with
  | .eq => eqB a.frz b.frz
  | .ne => (eqB a.frz b.frz).map fun c => !c
  | .isin => isIn a b
  | .nin => (isIn a b).map fun c => !c
  | _ => match a, b with
    | .val (.int i), .val (.int j) => cmpI op i j
    | _, _ => none

def index (a b : M) : Option D :=
  match a, b with
  | .val (.str x), .val (.int i) => if x.length ≤ LIM then strAt x i else none
  | a, .val k => match a.seq? with
    | some xs => match k with
      | .int i => L2.atI xs i
      | _ => none
    | none => match a.dic? with
      | some (t, kvs) => if keyOk t k then dget kvs k else none
      | none => none
  | _, _ => none
def slice (a : M) (lo hi : Option Int) : Option M :=
  match a with
  | .val (.str x) => if x.length ≤ LIM then some (.val (.str (L2.cutS x lo hi))) else none
  | .val (.tup xs) => some (.val (.tup (cutD xs lo hi)))
  | a => match a.lst1? with
    | some xs => some (.ol (cutD xs lo hi))
    | none => none

def ints? : List D → Option (List Int)
  | [] => some []
  | .int i :: r => (ints? r).map (i :: ·)
  | _ :: _ => none
def strs? : List D → Option (List Str)
  | [] => some []
  | .str i :: r => (strs? r).map (i :: ·)
  | _ :: _ => none
def maxI : List Int → Int
  | [] => 0
  | [a] => a
  | a :: r => max a (maxI r)
def minI : List Int → Int
  | [] => 0
  | [a] => a
  | a :: r => min a (minI r)
def insI (a : Int) : List Int → List Int
  | [] => [a]
  | b :: r => if a ≤ b then a :: b :: r else b :: insI a r
def sortI : List Int → List Int
  | [] => []
  | a :: r => insI a (sortI r)

def bi1 (f : String) (a : M) : Option M :=
  match f with
  | "len" => match a with
    | .val (.str x) => if x.length ≤ LIM then some (.val (.int x.length)) else none
    | a => match a.seq? with
      | some xs => some (.val (.int xs.length))
      | none => none
  | "sum" => match a.seq?.bind ints? with
    | some ns => some (.val (.int ns.sum))
    | none => none
  | "max" => match a.lst?.bind ints? with
    | some (n :: ns) => some (.val (.int (maxI (n :: ns))))
    | _ => none
  | "min" => match a.lst?.bind ints? with
    | some (n :: ns) => some (.val (.int (minI (n :: ns))))
    | _ => none
  | "sorted" => match a.lst?.bind ints? with
    | some ns => some (.ol ((sortI ns).map .int))
    | none => none
  | "list" => match a.seq? with
    | some xs => some (.ol xs)
    | none => none
  | "tuple" => match a.seq? with
    | some xs => some (.val (.tup xs))
    | none => none
  | "dict" => match a.dic? with
    | some (false, kvs) => some (.od false kvs)
    | _ => none
  | "int" => match a with
    | .val (.int i) => some (.val (.int i))
    | .val (.bl b) => some (.val (.int (if b then 1 else 0)))
    | .val (.str x) => if x.length ≤ 640 then (PySem.intText? x).map fun i => .val (.int i) else none
    | _ => none
  | "str" => match a with
    | .val (.int i) => if i.natAbs.log2 < 1920 then some (.val (.str (toString i))) else none
    | _ => none
  | "lenset" => match a.lst?.bind ints? with
    | some ns => if ns.length ≤ 4000 ∧ ns.Nodup then some (.val (.int ns.length)) else none
    | none => none
  | _ => none
def bi2 (f : String) (a b : M) : Option M :=
  match f with
  | "max" => match a, b with
    | .val (.int i), .val (.int j) => some (.val (.int (max i j)))
    | _, _ => none
  | "min" => match a, b with
    | .val (.int i), .val (.int j) => some (.val (.int (min i j)))
    | _, _ => none
  | "maxd" => match a.lst?.bind ints?, b with
    | some [], .val (.int j) => some (.val (.int j))
    | some (n :: ns), .val (.int _) => some (.val (.int (maxI (n :: ns))))
    | _, _ => none
  | _ => none
def bi3 (f : String) (a b c : M) : Option M :=
  match f with
  | "max" => match a, b, c with
    | .val (.int i), .val (.int j), .val (.int k) => some (.val (.int (max (max i j) k)))
    | _, _, _ => none
  | "lzip" => match a.seq?, b.seq?, c.seq? with
    | some xs, some ys, some zs => some (.ol ((xs.zip (ys.zip zs)).map fun p => .tup [p.1, p.2.1, p.2.2]))
    | _, _, _ => none
  | _ => none
def findIx (d : D) : List D → Nat → Option Nat
  | [], _ => none
  | y :: r, i => if eqv y d then some i else findIx d r (i + 1)
def bm1 (m : String) (o a : M) : Option M :=
  match m with
  | "index" => match o.lst?, a with
    | some ys, .val d => if d.flat && ys.all D.flat then (findIx d ys 0).map fun i => .val (.int i) else none
    | _, _ => none
  | "count" => match o.lst?, a with
    | some ys, .val (.bl b) => if ys.all (fun y => match y with | .bl _ => true | _ => false) then some (.val (.int (ys.countP fun y => decide (y = .bl b)))) else none
    | _, _ => none
  | "join" => match o, a.lst?.bind strs? with
    | .val (.str x), some ys => if (ys.map (·.length)).sum + ys.length * x.length ≤ 16777216 then some (.val (.str (PySem.Txt.join x ys))) else none
    | _, _ => none
  | "split" => match o, a with
    | .val (.str x), .val (.str y) => if y.length ≠ 0 ∧ x.length + 2 ≤ LIM then some (.ol ((PySem.Txt.split x y).map .str)) else none
    | _, _ => none
  | _ => none
def bm2 (m : String) (o a b : M) : Option M :=
  match m with
  | "get" => match o.dic?, a, b with
    | some (t, kvs), .val k, .val d => if keyOk t k then some (.val ((dget kvs k).getD d)) else none
    | _, _, _ => none
  | _ => none

/-! ### the run -/
def same (src : Option Nat) (s s' : Store) : Bool :=
  match src with
  | none => true
  | some n => decide (s[n]? = s'[n]?)
/-- the value of what stands: a container of a slot is frozen; one of a field is no value -/
def vl (m : M) (p : Pl) (e : Env) (s : Store) : Res M :=
  match m with
  | .val d => .ok (.val d) e s
  | m => match p with
    | .slot i => .ok (.val m.frz) (e.set i (some (.val m.frz))) s
    | .tmp => .ok m e s
    | _ => .bad
/-- what stands, to be read: the content, and the object of the store that it belongs to -/
def bw (m : M) (p : Pl) (s : Store) : M × Option Nat :=
  match m with
  | .val (.loc n) => match s[n]? with
    | some ⟨.lst xs, _⟩ => (.ol xs, some n)
    | some ⟨.dic t kvs, _⟩ => (.od t kvs, some n)
    | _ => (m, none)
  | .val d => (.val d, none)
  | m => (m, p.src)
def fldGet (fs : List (String × M)) (f : String) : Option M := (fs.find? fun p => p.1 == f).map (·.2)
def fldPut : List (String × M) → String → M → List (String × M)
  | [], k, v => [(k, v)]
  | (a, b) :: r, k, v => if a == k then (a, v) :: r else (a, b) :: fldPut r k v
/-- names stored from a value -/
def setNames : List Nat → List D → Env → Option Env
  | [], [], e => some e
  | i :: is, d :: ds, e => if i < e.length then setNames is ds (e.set i (some (.val d))) else none
  | _, _, _ => none
def store (t : Tg) (m : M) (e : Env) : Option Env :=
  match t with
  | .one i => if i < e.length then some (e.set i (some m)) else none
  | .many is => match m with
    | .val (.tup ds) => setNames is ds e
    | _ => none
def wipe (e : Env) : List Nat → Env
  | [] => e
  | i :: is => (wipe e is).set i none
def wipeOk (e : Env) (own : List Nat) : Bool := own.all fun i => match e[i]? with
  | some none => true
  | some (some (.val _)) => true
  | _ => false
def back (e0 e : Env) : List Nat → Env
  | [] => e
  | i :: is => (back e0 e is).set i (e0.getD i none)
def M.flat : M → Bool
  | .val .non => true
  | .val (.bl _) => true
  | .val (.int _) => true
  | .val (.str _) => true
  | _ => false
/-- a statement's expression is done: where nothing was changed and its value is flat the slots' own containers are own again -/
def keep (m : M) (e0 e1 : Env) (s0 s1 : Store) : Env := if m.flat = true ∧ s1 = s0 then e0 else e1
def still (ws : List Src) (s s' : Store) : Bool := ws.all fun w => match w with
  | .ent n => decide (s[n]? = s'[n]?)
  | .slot _ => true
/-- what stands, to be walked, and where it stands -/
def wk (m : M) (p : Pl) (s : Store) : M × List Src :=
  match m with
  | .val (.loc n) => match s[n]? with
    | some ⟨.lst xs, _⟩ => (.ol xs, [.ent n])
    | some ⟨.dic t kvs, _⟩ => (.od t kvs, [.ent n])
    | _ => (m, [])
  | .val d => (.val d, [])
  | m => (m, p.walk)
/-- what became of a statement -/
inductive Flow where
  | nx | ret (m : M)
  deriving Inhabited, DecidableEq
def forL (src : List Src) (s0 : Store) (tg : Tg) (body : Env → Store → Res Flow) : List D → Env → Store → Res Flow
  | [], e, s => if still src s0 s then .ok .nx e s else .bad
  | x :: xs, e, s => if still src s0 s then (match store tg (.val x) e with
    | none => .bad
    | some e => (body e s).bind fun f e s => match f with
      | .nx => forL src s0 tg body xs e s
      | .ret m => .ok (.ret m) e s) else .bad
/-- no exception leaves -/
def quiet {α : Type} (r : Res α) : Res α :=
  match r with
  | .ok a e s => .ok a e s
  | _ => .bad
def lcL (src : List Src) (s0 : Store) (own : List Nat) (tg : Tg) (test : Env → Store → Res Bool) (elt : Env → Store → Res D) : List D → List D → Env → Store → Res (List D)
  | [], acc, e, s => if still src s0 s then .ok acc e s else .bad
  | x :: xs, acc, e, s => if still src s0 s then (match store tg (.val x) e with
    | none => .bad
    | some e => (quiet (test e s)).bind fun c e s => if c then (quiet (elt e s)).bind fun d e s => lcL src s0 own tg test elt xs (acc ++ [d]) (wipe e own) s
      else lcL src s0 own tg test elt xs acc (wipe e own) s) else .bad
def whileL (test : Env → Store → Res Bool) (body : Env → Store → Res Flow) : Nat → Env → Store → Res Flow
  | 0, _, _ => .bad
  | k + 1, e, s => (test e s).bind fun c e s => if c then (body e s).bind fun f e s => match f with
    | .nx => whileL test body k e s
    | .ret m => .ok (.ret m) e s
    else .ok .nx e s
def ofRR (r : RR) (e : Env) : Res M :=
  match r with
  | .ok m s => .ok m e s
  | .err c s => .err c e s
  | .bad => .bad
def ofOpt {α : Type} (o : Option α) (e : Env) (s : Store) : Res α :=
  match o with
  | some a => .ok a e s
  | none => .bad
def getB (m : M) (e : Env) (s : Store) : Res Bool :=
  match m with
  | .val (.bl b) => .ok b e s
  | _ => .bad
def isSub (c d : String) : Bool := c == d || d == "GapError"
def tyIs (s : Store) (d : D) (t : Ty) : Option Bool :=
  match d with
  | .non => some false
  | .bl _ => match t with
    | .bl => some true
    | .int => some true
    | _ => some false
  | .int _ => match t with
    | .int => some true
    | _ => some false
  | .str _ => match t with
    | .str => some true
    | _ => some false
  | .tup _ => match t with
    | .tup => some true
    | _ => some false
  | .lst _ => match t with
    | .lst => some true
    | _ => some false
  | .exn c => match t with
    | .own d => some (isSub c d)
    | .valueError => some true
    | _ => none
  | .loc n => match s[n]? with
    | some ⟨.lst _, _⟩ => match t with
      | .lst => some true
      | _ => some false
    | some ⟨.ins c _, _⟩ => match t with
      | .own d => some (c == d)
      | _ => none
    | _ => none
  | _ => none
def tyAny (s : Store) (d : D) : List Ty → Option Bool
  | [] => some false
  | t :: ts => match tyIs s d t with
    | some true => some true
    | some false => tyAny s d ts
    | none => none
/-- a container shared from now on -/
def shared (m : M) (s : Store) : M × Store :=
  match m with
  | .ol xs => (.val (.loc s.length), s ++ [⟨.lst xs, 0⟩])
  | .od t kvs => (.val (.loc s.length), s ++ [⟨.dic t kvs, 0⟩])
  | m => (m, s)

section
variable (R : Runs)
/-- two things read, from the left -/
def two {α : Type} (a b : Env → Store → Res (M × Pl)) (k : M → M → Env → Store → Res α) (e : Env) (s : Store) : Res α :=
  (a e s).bind fun x e1 s1 => (b e1 s1).bind fun y e2 s2 =>
    if same (bw x.1 x.2 s1).2 s1 s2 then k (bw x.1 x.2 s1).1 (bw y.1 y.2 s2).1 e2 s2 else .bad
def three {α : Type} (a b c : Env → Store → Res (M × Pl)) (k : M → M → M → Env → Store → Res α) (e : Env) (s : Store) : Res α :=
  (a e s).bind fun x e1 s1 => (b e1 s1).bind fun y e2 s2 => (c e2 s2).bind fun z e3 s3 =>
    if same (bw x.1 x.2 s1).2 s1 s3 && same (bw y.1 y.2 s2).2 s2 s3 then k (bw x.1 x.2 s1).1 (bw y.1 y.2 s2).1 (bw z.1 z.2 s3).1 e3 s3 else .bad
def one {α : Type} (a : Env → Store → Res (M × Pl)) (k : M → Env → Store → Res α) (e : Env) (s : Store) : Res α :=
  (a e s).bind fun x e1 s1 => k (bw x.1 x.2 s1).1 e1 s1
/-- its value, frozen -/
def valD (a : Env → Store → Res (M × Pl)) (e : Env) (s : Store) : Res D :=
  (a e s).bind fun x e1 s1 => (vl x.1 x.2 e1 s1).bind fun m e2 s2 => .ok m.frz e2 s2
def valM (a : Env → Store → Res (M × Pl)) (e : Env) (s : Store) : Res M :=
  (a e s).bind fun x e1 s1 => vl x.1 x.2 e1 s1
def testB (a : Env → Store → Res (M × Pl)) (e : Env) (s : Store) : Res Bool :=
  (a e s).bind fun x e1 s1 => getB x.1 e1 s1
def out (o : Option M) (e : Env) (s : Store) : Res (M × Pl) :=
  match o with
  | some m => .ok (m, .tmp) e s
  | none => .bad
def outB (o : Option Bool) (e : Env) (s : Store) : Res (M × Pl) :=
  match o with
  | some b => .ok (.val (.bl b), .tmp) e s
  | none => .bad
def outM (r : Res M) : Res (M × Pl) := r.bind fun m e s => .ok (m, .tmp) e s
def consD (a : Env → Store → Res D) (r : Env → Store → Res (List D)) (e : Env) (s : Store) : Res (List D) :=
  (a e s).bind fun d e1 s1 => (r e1 s1).bind fun ds e2 s2 => .ok (d :: ds) e2 s2
def rng (i j : Int) : List D := (List.range (j - i).toNat).map fun k => .int (i + (k : Nat))
def rngDown (i j : Int) : List D := (List.range (i - j).toNat).map fun k => .int (i - (k : Nat))
/-- what a walk over it yields -/
def items (m : M) : Option (List D) :=
  match m with
  | .val (.str z) => some (signs z)
  | m => match m.seq? with
    | some xs => some xs
    | none => none
def pairs (a b : M) : Option (List D) :=
  match a, b with
  | .val (.tup xs), .val (.tup ys) => some ((xs.zip ys).map fun p => .tup [p.1, p.2])
  | a, b => match a.lst?, b.lst? with
    | some xs, some ys => some ((xs.zip ys).map fun p => .tup [p.1, p.2])
    | _, _ => none
def getI (m : M) (e : Env) (s : Store) : Res Int :=
  match m with
  | .val (.int i) => if -(2 ^ 62) ≤ i ∧ i < 2 ^ 62 then .ok i e s else .bad
  | _ => .bad
def rngOk (n : Int) : Bool := decide (n ≤ 16777216)

/-! what follows an operand -/
def okV (d : D) (e : Env) (s : Store) : Res (M × Pl) := .ok (.val d, .tmp) e s
def okB (b : Bool) (e : Env) (s : Store) : Res (M × Pl) := .ok (.val (.bl b), .tmp) e s
def varK (m : Option (Option M)) (i : Nat) (e : Env) (s : Store) : Res (M × Pl) :=
  match m with
  | some (some m) => .ok (m, .slot i) e s
  | _ => .bad
def negK (x : M) (e : Env) (s : Store) : Res (M × Pl) :=
  match x with
  | .val (.int i) => okV (.int (-i)) e s
  | _ => .bad
def isNK (n : Bool) (x : M) (e : Env) (s : Store) : Res (M × Pl) := okB (if n then !decide (x = .val .non) else decide (x = .val .non)) e s
def isBK (n b : Bool) (x : M) (e : Env) (s : Store) : Res (M × Pl) :=
  match x with
  | .val (.bl c) => okB (if n then !(c == b) else c == b) e s
  | _ => .bad
def chainK (o : Option Bool) (k : Env → Store → Res (M × Pl)) (e : Env) (s : Store) : Res (M × Pl) :=
  match o with
  | some true => k e s
  | some false => okB false e s
  | none => .bad
def outD (o : Option D) (e : Env) (s : Store) : Res (M × Pl) :=
  match o with
  | some d => okV d e s
  | none => .bad
def bothK (c : Bool) (k : Env → Store → Res (M × Pl)) (e : Env) (s : Store) : Res (M × Pl) := if c then k e s else okB false e s
def eitherK (c : Bool) (k : Env → Store → Res (M × Pl)) (e : Env) (s : Store) : Res (M × Pl) := if c then okB true e s else k e s
def ifeK (c : Bool) (a b : Env → Store → Res M) (e : Env) (s : Store) : Res (M × Pl) := outM (if c then a e s else b e s)
def dctK (t : Bool) (qs : List (D × D)) (e : Env) (s : Store) : Res (M × Pl) := if qs.all fun p => keyOk t p.1 then .ok (.od t (dmerge [] qs), .tmp) e s else .bad
def partK (x : M × Pl) (e : Env) (s : Store) : Res (Option Int) :=
  match x.1 with
  | .val (.int i) => .ok (some i) e s
  | _ => .bad
def lstK (ds : List D) (e : Env) (s : Store) : Res (M × Pl) := .ok (.ol ds, .tmp) e s
def slcK (x : M × Pl) (s1 : Store) (l h : Option Int) (e3 : Env) (s3 : Store) : Res (M × Pl) :=
  if same (bw x.1 x.2 s1).2 s1 s3 then out (slice (bw x.1 x.2 s1).1 l h) e3 s3 else .bad
def isiK (ts : List Ty) (x : M × Pl) (e : Env) (s : Store) : Res (M × Pl) := outB (tyAny s x.1.frz ts) e s
def attrK (f : String) (x : M × Pl) (e : Env) (s : Store) : Res (M × Pl) :=
  match x.1 with
  | .val (.loc n) => match s[n]? with
    | some ⟨.ins _ fs, _⟩ => match fldGet fs f with
      | some m => .ok (m, .fld n f) e s
      | none => .bad
    | _ => .bad
  | _ => .bad
def callK (f : String) (ds : List D) (e : Env) (s : Store) : Res (M × Pl) := outM (ofRR (R f ds s) e)
def newE (n : Nat) (m : M) (e : Env) (s : Store) : Res (M × Pl) :=
  match m with
  | .val .non => okV (.loc n) e s
  | _ => .bad
def newK (k : String) (ds : List D) (e : Env) (s : Store) : Res (M × Pl) := (ofRR (R (k ++ ".__init__") (.loc s.length :: ds) (s ++ [⟨.ins k [], 0⟩])) e).bind (newE s.length)
def methK (k m : String) (x : M × Pl) (as : Env → Store → Res (List D)) (e : Env) (s : Store) : Res (M × Pl) :=
  match x.1 with
  | .val (.loc n) => match s[n]? with
    | some ⟨.ins k' fs, _⟩ => if k' = k ∧ fldGet fs m = none then (as e s).bind fun ds => callK R (k ++ "." ++ m) (.loc n :: ds) else .bad
    | _ => .bad
  | _ => .bad
def appK (x : M × Pl) (e : Env) (s : Store) : Res (M × Pl) :=
  match x.1 with
  | .val (.lam f ds) => callK R f ds e s
  | _ => .bad
def lrangeK (x y : M) (e : Env) (s : Store) : Res (M × Pl) := (getI x e s).bind fun i e s => (getI y e s).bind fun j e s => if rngOk (j - i) then .ok (.ol (rng i j), .tmp) e s else .bad
def shareK (x : M × Pl) (e1 : Env) (s1 : Store) : Res (M × Pl) :=
  match x.2 with
  | .tmp => .ok ((shared x.1 s1).1, .tmp) e1 (shared x.1 s1).2
  | _ => .bad
def lcEnd (e1 : Env) (own : List Nat) (ds : List D) (e2 : Env) (s2 : Store) : Res (M × Pl) := .ok (.ol ds, .tmp) (back e1 e2 own) s2
def lcK (own : List Nat) (tg : Tg) (test : Env → Store → Res Bool) (elt : Env → Store → Res D) (x : List D × List Src) (e1 : Env) (s1 : Store) : Res (M × Pl) :=
  if wipeOk e1 own = true ∧ x.1.length ≤ LIM then (lcL x.2 s1 own tg test elt x.1 [] (wipe e1 own) s1).bind (lcEnd e1 own) else .bad
def itK (x : M × Pl) (e : Env) (s : Store) : Res (List D × List Src) :=
  match items (wk x.1 x.2 s).1 with
  | some xs => .ok (xs, (wk x.1 x.2 s).2) e s
  | none => .bad
def rng1K (x : M × Pl) (e : Env) (s : Store) : Res (List D × List Src) := (getI x.1 e s).bind fun j e s => .ok (rng 0 j, []) e s
def rng2K (x y : M) (e : Env) (s : Store) : Res (List D × List Src) := (getI x e s).bind fun i e s => (getI y e s).bind fun j e s => .ok (rng i j, []) e s
def rng3K (x y z : M) (e : Env) (s : Store) : Res (List D × List Src) :=
  (getI x e s).bind fun i e s => (getI y e s).bind fun j e s => (getI z e s).bind fun k e s => if k = -1 then .ok (rngDown i j, []) e s else .bad
def zipK (x y : M × Pl) (s1 : Store) (e2 : Env) (s2 : Store) : Res (List D × List Src) :=
  if still (wk x.1 x.2 s1).2 s1 s2 then (match pairs (wk x.1 x.2 s1).1 (wk y.1 y.2 s2).1 with
    | some ps => .ok (ps, (wk x.1 x.2 s1).2 ++ (wk y.1 y.2 s2).2) e2 s2
    | none => .bad) else .bad

mutual
def ev : IE → Env → Store → Res (M × Pl)
  | .var i => fun e s => varK e[i]? i e s
  | .cst d => okV d
  | .glob _ d => okV d
  | .bin op a b => two (ev a) (ev b) (fun x y => out (bin op x y))
  | .neg a => one (ev a) negK
  | .cmp op a b => two (ev a) (ev b) (fun x y => outB (cmp op x y))
  | .chain op op2 a b c => two (ev a) (ev b) (fun x y => chainK (cmp op x y) (one (ev c) fun z => outB (cmp op2 y z)))
  | .chain3 op op2 op3 a b c d => two (ev a) (ev b) (fun x y => chainK (cmp op x y) (one (ev c) fun z => chainK (cmp op2 y z) (one (ev d) fun w => outB (cmp op3 z w))))
  | .isN n a => one (ev a) (isNK n)
  | .isB n a b => one (ev a) (isBK n b)
  | .both a b => fun e s => (testB (ev a) e s).bind fun c => bothK c (ev b)
  | .either a b => fun e s => (testB (ev a) e s).bind fun c => eitherK c (ev b)
  | .nott a => fun e s => (testB (ev a) e s).bind fun c => okB (!c)
  | .ife c a b => fun e s => (testB (ev c) e s).bind fun k => ifeK k (valM (ev a)) (valM (ev b))
  | .tup es => fun e s => (evs es e s).bind fun ds => okV (.tup ds)
  | .lst es => fun e s => (evs es e s).bind lstK
  | .dct t ps => fun e s => (evk ps e s).bind (dctK t)
  | .idx a b => two (ev a) (ev b) (fun x y => outD (index x y))
  | .slc a lo hi => fun e s => (ev a e s).bind fun x e1 s1 => (evo lo e1 s1).bind fun l e2 s2 => (evo hi e2 s2).bind (slcK x s1 l)
  | .attr a f => fun e s => (ev a e s).bind (attrK f)
  | .call f es => fun e s => (evs es e s).bind (callK R f)
  | .new k es => fun e s => (evs es e s).bind (newK R k)
  | .meth o k m es => fun e s => (ev o e s).bind fun x => methK R k m x (evs es)
  | .bi1 f a => one (ev a) (fun x => out (bi1 f x))
  | .bi2 f a b => two (ev a) (ev b) (fun x y => out (bi2 f x y))
  | .bi3 f a b c => three (ev a) (ev b) (ev c) (fun x y z => out (bi3 f x y z))
  | .bm1 m o a => two (ev o) (ev a) (fun x y => out (bm1 m x y))
  | .bm2 m o a b => three (ev o) (ev a) (ev b) (fun x y z => out (bm2 m x y z))
  | .isi a _ ts => fun e s => (ev a e s).bind (isiK ts)
  | .lrange a b => two (ev a) (ev b) lrangeK
  | .lc elt tg it c own => fun e s => (evi it e s).bind (lcK own tg (evc c) (valD (ev elt)))
  | .share a => fun e s => (ev a e s).bind shareK
  | .lam f caps => fun e s => (evs caps e s).bind fun ds => okV (.lam f ds)
  | .app a => fun e s => (ev a e s).bind (appK R)
def evs : IEs → Env → Store → Res (List D)
  | .nil => fun e s => .ok [] e s
  | .cons a r => consD (valD (ev a)) (evs r)
def evk : IPs → Env → Store → Res (List (D × D))
  | .nil => fun e s => .ok [] e s
  | .cons a b r => fun e s => (valD (ev a) e s).bind fun k e s => (valD (ev b) e s).bind fun v e s => (evk r e s).bind fun ps e s => .ok ((k, v) :: ps) e s
def evo : IO → Env → Store → Res (Option Int)
  | .no => fun e s => .ok none e s
  | .yes a => fun e s => (ev a e s).bind partK
def evc : IO → Env → Store → Res Bool
  | .no => fun e s => .ok true e s
  | .yes a => testB (ev a)
def evi : It → Env → Store → Res (List D × List Src)
  | .of a => fun e s => (ev a e s).bind itK
  | .rng1 a => fun e s => (ev a e s).bind rng1K
  | .rng2 a b => two (ev a) (ev b) rng2K
  | .rng3 a b c => three (ev a) (ev b) (ev c) rng3K
  | .zip a b => fun e s => (ev a e s).bind fun x e1 s1 => (ev b e1 s1).bind fun y => zipK x y s1
end

/-! ### statements -/
/-- the container that a place holds, to be changed -/
def holdK (sl : List Nat) (p : Pl) : Option Pl :=
  match p with
  | .slot i => if i ∈ sl then some (.slot i) else none
  | .fld n f => some (.fld n f)
  | _ => none
def hold (sl : List Nat) (m : M) (p : Pl) : Option Pl :=
  match m with
  | .val (.loc n) => some (.obj n)
  | .val _ => none
  | _ => holdK sl p
def curr (p : Pl) (e : Env) (s : Store) : Option M :=
  match p with
  | .slot i => match e[i]? with
    | some (some m) => some m
    | _ => none
  | .fld n f => match s[n]? with
    | some ⟨.ins _ fs, _⟩ => fldGet fs f
    | _ => none
  | .obj n => match s[n]? with
    | some ⟨.lst xs, _⟩ => some (.ol xs)
    | some ⟨.dic t kvs, _⟩ => some (.od t kvs)
    | _ => none
  | _ => none
def put (p : Pl) (m : M) (e : Env) (s : Store) : Option (Env × Store) :=
  match p with
  | .slot i => some (e.set i (some m), s)
  | .fld n f => match s[n]? with
    | some ⟨.ins c fs, v⟩ => some (e, s.set n ⟨.ins c (fldPut fs f m), v + 1⟩)
    | _ => none
  | .obj n => match s[n]?, m with
    | some ⟨.lst _, v⟩, .ol xs => some (e, s.set n ⟨.lst xs, v + 1⟩)
    | some ⟨.dic _ _, v⟩, .od t kvs => some (e, s.set n ⟨.dic t kvs, v + 1⟩)
    | _, _ => none
  | _ => none
/-- a field's object must stand as it stood when the place was reckoned -/
def Pl.fsrc : Pl → Option Nat
  | .fld n _ => some n
  | _ => none
def mutate0 (f : String) (m : M) : Option M :=
  match f, m with
  | "clear", .ol _ => some (.ol [])
  | "reverse", .ol xs => some (.ol xs.reverse)
  | _, _ => none
def mutate1 (f : String) (m : M) (d : D) : Option M :=
  match f, m with
  | "append", .ol xs => if xs.length < LIM then some (.ol (xs ++ [d])) else none
  | "extend", .ol xs => match d with
    | .lst ys => if xs.length + ys.length ≤ LIM then some (.ol (xs ++ ys)) else none
    | _ => none
  | "update", .od false kvs => match d with
    | .dic false more => if kvs.length + more.length ≤ LIM then some (.od false (dmerge kvs more)) else none
    | _ => none
  | _, _ => none
def setItem (m : M) (k d : D) : Option M :=
  match m with
  | .ol xs => match k with
    | .int i => (L2.ixN xs.length i).map fun j => .ol (xs.set j d)
    | _ => none
  | .od false kvs => if keyOk false k ∧ kvs.length < LIM then some (.od false (dput kvs k d)) else none
  | _ => none
def movedK (m : M) (p : Pl) (e : Env) (s : Store) : Res Flow :=
  match p with
  | .slot _ => .ok (.ret m) e s
  | .tmp => .ok (.ret m) e s
  | _ => .bad
def moved (x : M × Pl) (e : Env) (s : Store) : Res Flow :=
  match x.1 with
  | .val d => .ok (.ret (.val d)) e s
  | m => movedK m x.2 e s
/-- a test's end: nothing was changed, so the slots' containers are own again -/
def testS (a : Env → Store → Res (M × Pl)) (e : Env) (s : Store) : Res Bool :=
  (testB a e s).bind fun k e1 s1 => .ok k (if s1 = s then e else e1) s1
def pushPl (p : Pl) (om : Option M) (e : Env) (s : Store) : Res Flow :=
  match om with
  | some m => match put p m e s with
    | some (e, s) => .ok .nx e s
    | none => .bad
  | none => .bad

/-- a place's content is exchanged; s1: the store when the place was reckoned -/
def atK (sl : List Nat) (x : M × Pl) (s1 : Store) (f : M → Option M) (e2 : Env) (s2 : Store) : Res Flow :=
  match hold sl x.1 x.2 with
  | some p => if same p.fsrc s1 s2 then (match curr p e2 s2 with
    | some m => pushPl p (f m) e2 s2
    | none => .bad) else .bad
  | none => if x.2 = .tmp ∧ x.1.isVal = false ∧ (f x.1).isSome = true then .ok .nx e2 s2 else .bad
def mut0K (f : String) (sl : List Nat) (x : M × Pl) (e1 : Env) (s1 : Store) : Res Flow := atK sl x s1 (mutate0 f) e1 s1
def kindOk (f : String) (m : M) : Bool := if f = "update" then (match m.dic? with | some (false, _) => true | _ => false) else m.lst1?.isSome
def mut1K (f : String) (sl : List Nat) (a : Env → Store → Res D) (x : M × Pl) (e1 : Env) (s1 : Store) : Res Flow :=
  if kindOk f (bw x.1 x.2 s1).1 then (a e1 s1).bind fun d e2 s2 => atK sl x s1 (fun m => mutate1 f m d) e2 s2 else .bad
/-- the slot that a container's expression names -/
def IE.slot? : IE → List Nat
  | .var i => [i]
  | _ => []
def Tg.slots : Tg → List Nat
  | .one i => [i]
  | .many is => is
mutual
/-- the slots that a statement may store or whose containers it may change -/
def wr : IS → List Nat
  | .asg t _ => t.slots
  | .pop t o => t :: o.slot?
  | .setA _ _ _ => []
  | .setI o _ _ => o.slot?
  | .ret _ => []
  | .ifs _ a b => wrs a ++ wrs b
  | .expr _ => []
  | .mut0 _ o => o.slot?
  | .mut1 _ o _ => o.slot?
  | .fors tg _ b => tg.slots ++ wrs b
  | .whil _ b => wrs b
  | .rais _ => []
  | .tryA b _ i h => i :: (wrs b ++ wrs h)
  | .tryM b hs => wrs b ++ wrh hs
  | .pass => []
def wrs : ISs → List Nat
  | .nil => []
  | .cons a r => wr a ++ wrs r
def wrh : IHs → List Nat
  | .nil => []
  | .cons _ b r => wrs b ++ wrh r
end
/-- a walk's source in a slot is left alone by the body -/
def apart (ws : List Src) (l : List Nat) : Bool := ws.all fun w => match w with
  | .ent _ => true
  | .slot i => !l.contains i
mutual
def exec (W : Nat) : IS → Env → Store → Res Flow
  | .asg t a => fun e s => (valM (ev R a) e s).bind fun m e1 s1 => match store t m (keep m e e1 s s1) with
    | some e2 => .ok .nx e2 s1
    | none => .bad
  | .pop t o => fun e s => (ev R o e s).bind fun x e1 s1 => match hold o.slot? x.1 x.2 with
    | some p => match curr p e1 s1 with
      | some (.ol xs) => match xs.getLast? with
        | some d => match put p (.ol xs.dropLast) e1 s1 with
          | some (e2, s2) => match store (.one t) (.val d) e2 with
            | some e3 => .ok .nx e3 s2
            | none => .bad
          | none => .bad
        | none => .bad
      | _ => .bad
    | none => .bad
  | .setA o f a => fun e s => (valM (ev R a) e s).bind fun m e1 s1 => (ev R o e1 s1).bind fun x e2 s2 => match x.1 with
    | .val (.loc n) => match s2[n]? with
      | some ⟨.ins c fs, v⟩ => if fs.length < 900 then .ok .nx (keep m e e2 s s2) (s2.set n ⟨.ins c (fldPut fs f m), v + 1⟩) else .bad
      | _ => .bad
    | _ => .bad
  | .setI o i a => fun e s => (valD (ev R a) e s).bind fun d e1 s1 => (ev R o e1 s1).bind fun x e2 s2 => (valD (ev R i) e2 s2).bind fun k e3 s3 => atK o.slot? x s2 (fun m => setItem m k d) e3 s3
  | .ret a => fun e s => (ev R a e s).bind fun x e1 s1 => moved x e1 s1
  | .ifs c a b => fun e s => (testS (ev R c) e s).bind fun k e1 s1 => if k then execs W a e1 s1 else execs W b e1 s1
  | .expr a => fun e s => (valM (ev R a) e s).bind fun _ e1 s1 => .ok .nx (if s1 = s then e else e1) s1
  | .mut0 f o => fun e s => (ev R o e s).bind fun x e1 s1 => mut0K f o.slot? x e1 s1
  | .mut1 f o a => fun e s => (ev R o e s).bind fun x e1 s1 => mut1K f o.slot? (valD (ev R a)) x e1 s1
  | .fors tg it b => fun e s => (evi R it e s).bind fun x e1 s1 => if apart x.2 (tg.slots ++ wrs b) then forL x.2 s1 tg (execs W b) x.1 e1 s1 else .bad
  | .whil c b => fun e s => whileL (testS (ev R c)) (execs W b) W e s
  | .rais c => fun e s => .err c e s
  | .tryA b c i h => fun e s => match execs W b e s with
    | .ok f e1 s1 => .ok f e1 s1
    | .err c' e1 s1 => if isSub c' c then (if i < e1.length then (execs W h (e1.set i (some (.val (.exn c')))) s1).bind fun f e2 s2 => .ok f (e2.set i none) s2 else .bad) else .err c' e1 s1
    | .bad => .bad
  | .tryM b hs => fun e s => match execs W b e s with
    | .ok f e1 s1 => .ok f e1 s1
    | .err c e1 s1 => execH W hs c e1 s1
    | .bad => .bad
  | .pass => fun e s => .ok .nx e s
def execs (W : Nat) : ISs → Env → Store → Res Flow
  | .nil => fun e s => .ok .nx e s
  | .cons a r => fun e s => (exec W a e s).bind fun f e s => match f with
    | .nx => execs W r e s
    | .ret m => .ok (.ret m) e s
def execH (W : Nat) : IHs → String → Env → Store → Res Flow
  | .nil => fun c e s => .err c e s
  | .cons d b r => fun c e s => if isSub c d then execs W b e s else execH W r c e s
end
end

/-! ### defs -/
mutual
def D.locsLt (n : Nat) : D → Bool
  | .tup xs => D.locsLts n xs
  | .lst xs => D.locsLts n xs
  | .dic _ kvs => D.locsLtk n kvs
  | .loc k => decide (k < n)
  | .lam _ xs => D.locsLts n xs
  | _ => true
def D.locsLts (n : Nat) : List D → Bool
  | [] => true
  | x :: xs => D.locsLt n x && D.locsLts n xs
def D.locsLtk (n : Nat) : List (D × D) → Bool
  | [] => true
  | (a, b) :: xs => D.locsLt n a && D.locsLt n b && D.locsLtk n xs
end
def M.locsLt (n : Nat) (m : M) : Bool := m.frz.locsLt n
/-- what was made meanwhile and can't be reached any more is dropped -/
def gc (s0 : Store) (m : M) (s : Store) : Store := if s.take s0.length = s0 ∧ m.locsLt s0.length = true then s0 else s
def fin (s0 : Store) (r : Res Flow) : RR :=
  match r with
  | .ok .nx _ s => .ok (.val .non) (gc s0 (.val .non) s)
  | .ok (.ret m) _ s => .ok m (gc s0 m s)
  | .err c _ s => .err c (gc s0 (.val .non) s)
  | .bad => .bad
def look (P : Prog) (f : String) : Option Fn := (P.find? fun p => p.1 == f).map (·.2)
def begun (fn : Fn) (ds : List D) : Env := ds.map (fun d => some (.val d)) ++ List.replicate (fn.ns - ds.length) none
def run (P : Prog) (W : Nat) : Nat → Runs
  | 0 => fun _ _ _ => .bad
  | n + 1 => fun f ds s => match look P f with
    | some fn => if ds.length = fn.np ∧ fn.np ≤ fn.ns then fin s (execs (run P W n) W fn.body (begun fn ds) s) else .bad
    | none => .bad
end OI

/-! OIb: how values and the store of OI lie in the hand layer's abstract heap; what a step keeps. -/
namespace OI
open PySem PySem.Spec PyProof.Rows L2

/-- the constants: the written part, classes by name, the caught exception -/
structure Cn where
  K : PySem.W.Frag
  cls : String → Addr
  exn : Option (Addr × String)
/-- where the shared objects lie, whose a container is, the abstract heap -/
structure Wd where
  am : List Addr
  ow : Addr → Option Pl
  H : Hp

def KL (K : PySem.W.Frag) (a : Addr) (xs : List V) : Prop :=
  ∃ (o : Obj) (its : Array Value) (n : Nat), K.lookup a = some o ∧ o.cls = .type "list" ∧ o.dict = none ∧ o.data = .seq its n ∧ its.size ≤ sizeLine ∧ Vals xs its.toList
def KT (K : PySem.W.Frag) (a : Addr) (xs : List V) : Prop :=
  ∃ (o : Obj) (its : Array Value) (n : Nat), K.lookup a = some o ∧ o.cls = .type "tuple" ∧ o.data = .seq its n ∧ its.size ≤ sizeLine ∧ Vals xs its.toList
/-- a list, a tuple that stays as it is -/
def FzL (c : Cn) (S : Wd) (a : Addr) (xs : List V) : Prop := (Rd S.H a (.lst xs) ∧ S.ow a = none) ∨ KL c.K a xs
def FzT (c : Cn) (S : Wd) (a : Addr) (xs : List V) : Prop := (Rd S.H a (.tup xs) ∧ S.ow a = none) ∨ KT c.K a xs
theorem FzL.sq {c : Cn} {S : Wd} {a : Addr} {xs : List V} (h : FzL c S a xs) : SqL c.K S.H a xs := h.elim (fun h => .inl h.1) .inr
theorem FzT.sq {c : Cn} {S : Wd} {a : Addr} {xs : List V} (h : FzT c S a xs) : SqT c.K S.H a xs := h.elim (fun h => .inl h.1) .inr

def keyOf : D → Key
  | .int i => .inl i
  | .str x => .inr x
  | _ => .inl 0
/-- a dict: its keys, its values -/
def dHO (c : Cn) (p : Addr) (t : Bool) (ks : List D) (vs : List V) : HO :=
  if t then .ext fun _ => False else .dK ((ks.zip vs).map fun q => (keyOf q.1, q.2))

mutual
def RepD (c : Cn) (S : Wd) : D → V → Prop
  | .non, v => v = .non
  | .bl b, v => v = .bl b
  | .int i, v => v = .int i
  | .str x, v => v = .str x
  | .tup xs, v => ∃ p vs, v = .ref p ∧ FzT c S p vs ∧ RepDs c S xs vs
  | .lst xs, v => ∃ p vs, v = .ref p ∧ S.H p = some (.lst vs) ∧ S.ow p = none ∧ RepDs c S xs vs
  | .dic t kvs, v => ∃ p vs, v = .ref p ∧ S.H p = some (dHO c p t (kvs.map (·.1)) vs) ∧ S.ow p = none ∧ RepKs c S t kvs vs
  | .scr ns, v => ∃ p, v = .ref p ∧ FzL c S p (ns.map V.int)
  | .loc n, v => ∃ a, v = .ref a ∧ S.am[n]? = some a
  | .exn s, v => ∃ a, v = .ref a ∧ c.exn = some (a, s)
  | .lam _ _, _ => False
def RepDs (c : Cn) (S : Wd) : List D → List V → Prop
  | [], vs => vs = []
  | d :: ds, vs => ∃ v r, vs = v :: r ∧ RepD c S d v ∧ RepDs c S ds r
def RepKs (c : Cn) (S : Wd) (t : Bool) : List (D × D) → List V → Prop
  | [], vs => vs = []
  | (k, d) :: ds, vs => ∃ v r, vs = v :: r ∧ keyOk t k = true ∧ RepD c S d v ∧ RepKs c S t ds r
end

/-- what is frozen stays; shared objects stay where they are -/
structure Fr (S S' : Wd) : Prop where
  keep : ∀ a o, S.H a = some o → S.ow a = none → S'.H a = some o ∧ S'.ow a = none
  am : ∃ more, S'.am = S.am ++ more
theorem Fr.refl (S : Wd) : Fr S S := ⟨fun _ _ h1 h2 => ⟨h1, h2⟩, [], by simp⟩
theorem Fr.trans {S S1 S2 : Wd} (a : Fr S S1) (b : Fr S1 S2) : Fr S S2 :=
  ⟨fun p o h1 h2 => b.keep p o (a.keep p o h1 h2).1 (a.keep p o h1 h2).2, by
    obtain ⟨m, e⟩ := a.am
    obtain ⟨m2, e2⟩ := b.am
    exact ⟨m ++ m2, by rw [e2, e, List.append_assoc]⟩⟩
theorem Fr.amAt {S S' : Wd} (f : Fr S S') {n : Nat} {a : Addr} (h : S.am[n]? = some a) : S'.am[n]? = some a := by
  obtain ⟨m, e⟩ := f.am
  rw [e, List.getElem?_append_left (List.getElem?_eq_some_iff.mp h).1]
  exact h
theorem Fr.rd {S S' : Wd} (f : Fr S S') {a : Addr} {u : HO} (h : Rd S.H a u) (ho : S.ow a = none) : Rd S'.H a u ∧ S'.ow a = none := by
  rcases h with h | ⟨o, h⟩
  · exact ⟨.inl (f.keep a _ h ho).1, (f.keep a _ h ho).2⟩
  · exact ⟨.inr ⟨o, (f.keep a _ h ho).1⟩, (f.keep a _ h ho).2⟩
theorem FzL.mono {c : Cn} {S S' : Wd} (f : Fr S S') {a : Addr} {xs : List V} (h : FzL c S a xs) : FzL c S' a xs := h.elim (fun h => .inl (f.rd h.1 h.2)) .inr
theorem FzT.mono {c : Cn} {S S' : Wd} (f : Fr S S') {a : Addr} {xs : List V} (h : FzT c S a xs) : FzT c S' a xs := h.elim (fun h => .inl (f.rd h.1 h.2)) .inr

mutual
theorem RepD.mono {c : Cn} {S S' : Wd} (f : Fr S S') : ∀ {d : D} {v : V}, RepD c S d v → RepD c S' d v
  | .non, _, h => h
  | .bl _, _, h => h
  | .int _, _, h => h
  | .str _, _, h => h
  | .tup xs, _, ⟨p, vs, e, h1, h2⟩ => ⟨p, vs, e, h1.mono f, RepDs.mono f h2⟩
  | .lst xs, _, ⟨p, vs, e, h1, h2, h3⟩ => ⟨p, vs, e, (f.keep p _ h1 h2).1, (f.keep p _ h1 h2).2, RepDs.mono f h3⟩
  | .dic t kvs, _, ⟨p, vs, e, h1, h2, h3⟩ => ⟨p, vs, e, (f.keep p _ h1 h2).1, (f.keep p _ h1 h2).2, RepKs.mono f h3⟩
  | .scr _, _, ⟨p, e, h⟩ => ⟨p, e, h.mono f⟩
  | .loc _, _, ⟨a, e, h⟩ => ⟨a, e, f.amAt h⟩
  | .exn _, _, h => h
  | .lam _ _, _, h => False.elim h
theorem RepDs.mono {c : Cn} {S S' : Wd} (f : Fr S S') : ∀ {d : List D} {v : List V}, RepDs c S d v → RepDs c S' d v
  | [], _, h => h
  | d :: ds, _, ⟨v, r, e, h1, h2⟩ => ⟨v, r, e, RepD.mono f h1, RepDs.mono f h2⟩
theorem RepKs.mono {c : Cn} {S S' : Wd} (f : Fr S S') {t : Bool} : ∀ {d : List (D × D)} {v : List V}, RepKs c S t d v → RepKs c S' t d v
  | [], _, h => h
  | (k, d) :: ds, _, ⟨v, r, e, h0, h1, h2⟩ => ⟨v, r, e, h0, RepD.mono f h1, RepKs.mono f h2⟩
end
theorem RepDs.length {c : Cn} {S : Wd} : ∀ {ds : List D} {vs : List V}, RepDs c S ds vs → vs.length = ds.length
  | [], _, h => by rw [show _ = [] from h]; rfl
  | d :: ds, _, ⟨v, r, e, _, h⟩ => by rw [e, List.length_cons, List.length_cons, RepDs.length h]
theorem RepKs.length {c : Cn} {S : Wd} {t : Bool} : ∀ {ds : List (D × D)} {vs : List V}, RepKs c S t ds vs → vs.length = ds.length
  | [], _, h => by rw [show _ = [] from h]; rfl
  | (_, d) :: ds, _, ⟨v, r, e, _, _, h⟩ => by rw [e, List.length_cons, List.length_cons, RepKs.length h]
theorem RepDs.get {c : Cn} {S : Wd} : ∀ {ds : List D} {vs : List V} {i : Nat} {d : D}, RepDs c S ds vs → ds[i]? = some d → ∃ v, vs[i]? = some v ∧ RepD c S d v
  | [], _, _, _, _, e => by simp at e
  | d :: ds, _, 0, _, ⟨v, r, e, h, _⟩, e1 => by
    subst e
    simp at e1
    subst e1
    exact ⟨v, rfl, h⟩
  | d :: ds, _, i + 1, _, ⟨v, r, e, _, h⟩, e1 => by
    subst e
    simp at e1
    obtain ⟨v', e2, h2⟩ := RepDs.get h e1
    exact ⟨v', by simpa using e2, h2⟩
theorem RepDs.getv {c : Cn} {S : Wd} : ∀ {ds : List D} {vs : List V} {i : Nat} {v : V}, RepDs c S ds vs → vs[i]? = some v → ∃ d, ds[i]? = some d ∧ RepD c S d v
  | [], _, _, _, h, e => by rw [show _ = [] from h] at e; simp at e
  | d :: ds, _, 0, _, ⟨v, r, e, h, _⟩, e1 => by
    subst e
    simp at e1
    subst e1
    exact ⟨d, rfl, h⟩
  | d :: ds, _, i + 1, _, ⟨v, r, e, _, h⟩, e1 => by
    subst e
    simp at e1
    obtain ⟨d', e2, h2⟩ := RepDs.getv h e1
    exact ⟨d', by simpa using e2, h2⟩
theorem RepDs.append {c : Cn} {S : Wd} : ∀ {ds es : List D} {vs ws : List V}, RepDs c S ds vs → RepDs c S es ws → RepDs c S (ds ++ es) (vs ++ ws)
  | [], _, _, _, h, h2 => by rw [show _ = [] from h]; exact h2
  | d :: ds, _, _, _, ⟨v, r, e, h, h1⟩, h2 => by
    subst e
    exact ⟨v, _, rfl, h, RepDs.append h1 h2⟩
theorem RepDs.take {c : Cn} {S : Wd} : ∀ {ds : List D} {vs : List V} (n : Nat), RepDs c S ds vs → RepDs c S (ds.take n) (vs.take n)
  | _, _, 0, _ => rfl
  | [], _, n + 1, h => by rw [show _ = [] from h]; rfl
  | d :: ds, _, n + 1, ⟨v, r, e, h, h1⟩ => by
    subst e
    exact ⟨v, _, rfl, h, RepDs.take n h1⟩
theorem RepDs.drop {c : Cn} {S : Wd} : ∀ {ds : List D} {vs : List V} (n : Nat), RepDs c S ds vs → RepDs c S (ds.drop n) (vs.drop n)
  | _, _, 0, h => h
  | [], _, n + 1, h => by rw [show _ = [] from h]; rfl
  | d :: ds, _, n + 1, ⟨v, r, e, h, h1⟩ => by
    subst e
    exact RepDs.drop n h1
theorem RepDs.set {c : Cn} {S : Wd} {d : D} {v : V} (hd : RepD c S d v) : ∀ {ds : List D} {vs : List V} (i : Nat), RepDs c S ds vs → RepDs c S (ds.set i d) (vs.set i v)
  | [], _, _, h => by rw [show _ = [] from h]; rfl
  | e :: ds, _, 0, ⟨w, r, q, h, h1⟩ => by
    subst q
    exact ⟨v, _, rfl, hd, h1⟩
  | e :: ds, _, i + 1, ⟨w, r, q, h, h1⟩ => by
    subst q
    exact ⟨w, _, rfl, h, RepDs.set hd i h1⟩
theorem RepDs.reverse {c : Cn} {S : Wd} : ∀ {ds : List D} {vs : List V}, RepDs c S ds vs → RepDs c S ds.reverse vs.reverse
  | [], _, h => by rw [show _ = [] from h]; rfl
  | d :: ds, _, ⟨w, r, q, h, h1⟩ => by
    subst q
    rw [List.reverse_cons, List.reverse_cons]
    exact RepDs.append (RepDs.reverse h1) ⟨w, [], rfl, h, rfl⟩
theorem RepDs.ints {c : Cn} {S : Wd} : ∀ ns : List Int, RepDs c S (ns.map .int) (ns.map V.int)
  | [] => rfl
  | n :: ns => ⟨_, _, rfl, rfl, RepDs.ints ns⟩
theorem RepDs.strs {c : Cn} {S : Wd} : ∀ ns : List Str, RepDs c S (ns.map .str) (ns.map V.str)
  | [] => rfl
  | n :: ns => ⟨_, _, rfl, rfl, RepDs.strs ns⟩
theorem RepDs.flatten {c : Cn} {S : Wd} {ds : List D} {vs : List V} (h : RepDs c S ds vs) : ∀ k : Nat, RepDs c S (List.replicate k ds).flatten (List.replicate k vs).flatten
  | 0 => rfl
  | k + 1 => by
    rw [List.replicate_succ, List.replicate_succ, List.flatten_cons, List.flatten_cons]
    exact RepDs.append h (RepDs.flatten h k)

/-! ### containers of their own, fields, objects -/
def RepM (c : Cn) (S : Wd) (pl : Pl) : M → V → Prop
  | .val d, v => RepD c S d v
  | .ol xs, v => ∃ p vs, v = .ref p ∧ S.H p = some (.lst vs) ∧ S.ow p = some pl ∧ RepDs c S xs vs
  | .od t kvs, v => ∃ p vs, v = .ref p ∧ S.H p = some (dHO c p t (kvs.map (·.1)) vs) ∧ S.ow p = some pl ∧ RepKs c S t kvs vs
/-- whose it ever is, to be read -/
def RepV (c : Cn) (S : Wd) : M → V → Prop
  | .val d, v => RepD c S d v
  | .ol xs, v => ∃ p vs, v = .ref p ∧ S.H p = some (.lst vs) ∧ RepDs c S xs vs
  | .od t kvs, v => ∃ p vs, v = .ref p ∧ S.H p = some (dHO c p t (kvs.map (·.1)) vs) ∧ RepKs c S t kvs vs
theorem RepM.view {c : Cn} {S : Wd} {pl : Pl} : ∀ {m : M} {v : V}, RepM c S pl m v → RepV c S m v
  | .val _, _, h => h
  | .ol _, _, ⟨p, vs, e, h, _, r⟩ => ⟨p, vs, e, h, r⟩
  | .od _ _, _, ⟨p, vs, e, h, _, r⟩ => ⟨p, vs, e, h, r⟩
def RepF (c : Cn) (S : Wd) (n : Nat) : List (String × M) → List (Str × V) → Prop
  | [], fs => fs = []
  | (f, m) :: r, fs => ∃ v q, fs = (Str.ofString f, v) :: q ∧ RepM c S (.fld n f) m v ∧ RepF c S n r q
def RepO (c : Cn) (S : Wd) (n : Nat) (a : Addr) : SObj → Prop
  | .ins k fs => ∃ dx fs', S.H a = some (.ins (c.cls k) dx fs') ∧ RepF c S n fs fs' ∧ (fs.map (·.1)).Nodup
  | .lst xs => ∃ vs, S.H a = some (.lst vs) ∧ RepDs c S xs vs
  | .dic t kvs => ∃ vs, S.H a = some (dHO c a t (kvs.map (·.1)) vs) ∧ RepKs c S t kvs vs

/-- lists, tuples and dicts have their largest length -/
def HL (H : Hp) : Prop := ∀ a, (∀ xs, H a = some (.lst xs) → xs.length ≤ 16777216) ∧ (∀ xs, H a = some (.tup xs) → xs.length ≤ 16777216) ∧ ∀ xs, H a = some (.dK xs) → xs.length ≤ 16777216

structure RlS (c : Cn) (S : Wd) (s : Store) : Prop where
  len : S.am.length = s.length
  obj : ∀ n e, s[n]? = some e → ∃ a, S.am[n]? = some a ∧ S.ow a = some (.obj n) ∧ RepO c S n a e.o
  dom : ∀ a, S.ow a ≠ none → S.H a ≠ none
  src : ∀ a q n, S.ow a = some q → q.src = some n → n < s.length
  hl : HL S.H
structure Rl (c : Cn) (S : Wd) (e : Env) (s : Store) (σ : L2.St) : Prop extends RlS c S s where
  elen : e.length = σ.length
  slot : ∀ i m, e[i]? = some (some m) → ∃ v, σ[i]? = some (some v) ∧ RepM c S (.slot i) m v

/-! ### steps -/
def VerS (s s' : Store) : Prop := ∀ (n : Nat) (e : Ent), s[n]? = some e → ∃ e' : Ent, s'[n]? = some e' ∧ e.v ≤ e'.v ∧ (e.v = e'.v → e' = e)
theorem VerS.refl (s : Store) : VerS s s := fun _ e h => ⟨e, h, Nat.le_refl _, fun _ => rfl⟩
theorem VerS.trans {s s1 s2 : Store} (a : VerS s s1) (b : VerS s1 s2) : VerS s s2 := fun n e h => by
  obtain ⟨e1, h1, l1, q1⟩ := a n e h
  obtain ⟨e2, h2, l2, q2⟩ := b n e1 h1
  refine ⟨e2, h2, by omega, fun z => ?_⟩
  have z1 : e.v = e1.v := by omega
  have z2 : e1.v = e2.v := by omega
  rw [q2 z2, q1 z1]
theorem VerS.len {s s' : Store} (a : VerS s s') : s.length ≤ s'.length := by
  rcases Nat.lt_or_ge s'.length s.length with h | h
  · have e := a s'.length _ (List.getElem?_eq_getElem h)
    obtain ⟨e', h', _⟩ := e
    rw [List.getElem?_eq_none (Nat.le_refl _)] at h'
    cases h'
  · exact h
/-- what belongs to shared objects: unchanged where the store's entry is; others' containers: unchanged -/
structure StC (S S' : Wd) (s s' : Store) : Prop extends Fr S S' where
  ver : VerS s s'
  ent : ∀ n e, s[n]? = some e → s'[n]? = some e → ∀ a p, S.ow a = some p → p.src = some n → S'.H a = S.H a ∧ S'.ow a = some p
  oth : ∀ a, S.ow a = some .oth → S'.H a = S.H a ∧ S'.ow a = some .oth
theorem StC.refl (S : Wd) (s : Store) : StC S S s s := ⟨Fr.refl S, VerS.refl s, fun _ _ _ _ _ _ h _ => ⟨rfl, h⟩, fun _ h => ⟨rfl, h⟩⟩
theorem StC.trans {S S1 S2 : Wd} {s s1 s2 : Store} (a : StC S S1 s s1) (b : StC S1 S2 s1 s2) : StC S S2 s s2 where
  toFr := a.toFr.trans b.toFr
  ver := a.ver.trans b.ver
  ent := fun n e h h2 p q hp hq => by
    obtain ⟨e1, h1, l1, q1⟩ := a.ver n e h
    obtain ⟨e2, h2', l2, q2⟩ := b.ver n e1 h1
    rw [h2] at h2'
    cases h2'
    have z : e.v = e1.v := by omega
    have z1 := q1 z
    subst z1
    obtain ⟨x1, x2⟩ := a.ent n _ h h1 p q hp hq
    obtain ⟨y1, y2⟩ := b.ent n _ h1 h2 p q x2 hq
    exact ⟨y1.trans x1, y2⟩
  oth := fun p hp => by
    obtain ⟨x1, x2⟩ := a.oth p hp
    obtain ⟨y1, y2⟩ := b.oth p x2
    exact ⟨y1.trans x1, y2⟩
/-- an expression's step -/
structure StE (S S' : Wd) (s s' : Store) : Prop extends StC S S' s s' where
  slot : ∀ a i, S.ow a = some (.slot i) → S'.H a = S.H a ∧ (S'.ow a = some (.slot i) ∨ S'.ow a = none)
theorem StE.refl (S : Wd) (s : Store) : StE S S s s := ⟨StC.refl S s, fun _ _ h => ⟨rfl, .inl h⟩⟩

theorem RepF.view {c : Cn} {S : Wd} {n : Nat} : ∀ {fs : List (String × M)} {gs : List (Str × V)}, RepF c S n fs gs → gs.map (·.1) = fs.map fun p => Str.ofString p.1
  | [], _, h => by rw [show _ = [] from h]; rfl
  | (f, m) :: r, _, ⟨v, q, e, _, h⟩ => by
    subst e
    simp [RepF.view h]
end OI

/-! OIb2: what is kept by a step: slots, fields, shared objects; freezing; reading what another's is. -/
namespace OI
open PySem PySem.Spec PyProof.Rows L2
variable {c : Cn} {S S' S1 : Wd} {s s' : Store} {e : Env} {σ : L2.St}

theorem RepM.step {pl : Pl} (f : Fr S S') {m : M} {v : V} (h : RepM c S pl m v) (k : ∀ p, S.ow p = some pl → S'.H p = S.H p ∧ S'.ow p = some pl) : RepM c S' pl m v := by
  cases m with
  | val d => exact RepD.mono f h
  | ol xs =>
    obtain ⟨p, vs, e, h1, h2, h3⟩ := h
    exact ⟨p, vs, e, by rw [(k p h2).1]; exact h1, (k p h2).2, RepDs.mono f h3⟩
  | od t kvs =>
    obtain ⟨p, vs, e, h1, h2, h3⟩ := h
    exact ⟨p, vs, e, by rw [(k p h2).1]; exact h1, (k p h2).2, RepKs.mono f h3⟩
theorem RepF.step {n : Nat} (f : Fr S S') (k : ∀ p g, S.ow p = some (.fld n g) → S'.H p = S.H p ∧ S'.ow p = some (.fld n g)) : ∀ {fs : List (String × M)} {gs : List (Str × V)}, RepF c S n fs gs → RepF c S' n fs gs
  | [], _, h => h
  | (g, m) :: r, _, ⟨v, q, e, h1, h2⟩ => ⟨v, q, e, h1.step f (fun p hp => k p g hp), RepF.step f k h2⟩
theorem RepO.step {n : Nat} {a : Addr} {o : SObj} (f : Fr S S') (ha : S'.H a = S.H a) (k : ∀ p g, S.ow p = some (.fld n g) → S'.H p = S.H p ∧ S'.ow p = some (.fld n g)) (h : RepO c S n a o) : RepO c S' n a o := by
  cases o with
  | ins k' fs =>
    obtain ⟨dx, fs', h1, h2, h3⟩ := h
    exact ⟨dx, fs', by rw [ha]; exact h1, h2.step f k, h3⟩
  | lst xs =>
    obtain ⟨vs, h1, h2⟩ := h
    exact ⟨vs, by rw [ha]; exact h1, h2.mono f⟩
  | dic t kvs =>
    obtain ⟨vs, h1, h2⟩ := h
    exact ⟨vs, by rw [ha]; exact h1, h2.mono f⟩
theorem RlS.step (R : RlS c S s) (f : Fr S S') (k : ∀ p q n, S.ow p = some q → q.src = some n → S'.H p = S.H p ∧ S'.ow p = some q) (am : S'.am = S.am) (dom : ∀ a, S'.ow a ≠ none → S'.H a ≠ none) (src : ∀ a q n, S'.ow a = some q → q.src = some n → n < s.length) (hl : HL S'.H) : RlS c S' s where
  len := by rw [am]; exact R.len
  obj := fun n e h => by
    obtain ⟨a, h1, h2, h3⟩ := R.obj n e h
    exact ⟨a, by rw [am]; exact h1, (k a _ n h2 rfl).2, h3.step f (k a _ n h2 rfl).1 fun p g hp => k p _ n hp rfl⟩
  dom := dom
  src := src
  hl := hl
theorem Rl.step (R : Rl c S e s σ) (f : Fr S S') (k : ∀ p q n, S.ow p = some q → q.src = some n → S'.H p = S.H p ∧ S'.ow p = some q) (ks : ∀ p i, S.ow p = some (.slot i) → S'.H p = S.H p ∧ S'.ow p = some (.slot i)) (am : S'.am = S.am)
    (dom : ∀ a, S'.ow a ≠ none → S'.H a ≠ none) (src : ∀ a q n, S'.ow a = some q → q.src = some n → n < s.length) (hl : HL S'.H) : Rl c S' e s σ where
  toRlS := R.toRlS.step f k am dom src hl
  elen := R.elen
  slot := fun i m h => by
    obtain ⟨v, h1, h2⟩ := R.slot i m h
    exact ⟨v, h1, h2.step f fun p hp => ks p i hp⟩

/-- something new is laid: frozen at once, or a container that nobody has yet -/
structure Al (S S' : Wd) : Prop where
  am : S'.am = S.am
  old : ∀ a o, S.H a = some o → S'.H a = some o ∧ S'.ow a = S.ow a
  new : ∀ a, S.H a = none → S'.ow a = none ∨ S'.ow a = some .tmp
  dom : ∀ a, S'.ow a ≠ none → S'.H a ≠ none
  hl : HL S'.H
theorem Al.fr (h : Al S S') : Fr S S' := ⟨fun a o h1 h2 => ⟨(h.old a o h1).1, by rw [(h.old a o h1).2, h2]⟩, [], by rw [h.am, List.append_nil]⟩
theorem Al.at (h : Al S S') (dom : ∀ a, S.ow a ≠ none → S.H a ≠ none) {p : Addr} {q : Pl} (hp : S.ow p = some q) : S'.H p = S.H p ∧ S'.ow p = some q := by
  have h1 := dom p (by rw [hp]; simp)
  cases e : S.H p with
  | none => exact absurd e h1
  | some o => exact ⟨(h.old p o e).1, by rw [(h.old p o e).2, hp]⟩
theorem Al.rl (h : Al S S') (R : Rl c S e s σ) : Rl c S' e s σ := R.step h.fr (fun p q n hp _ => h.at R.dom hp) (fun p i hp => h.at R.dom hp) h.am h.dom (fun a q n h1 h2 => by
    cases e : S.H a with
    | none =>
      rcases h.new a e with z | z
      · rw [z] at h1; cases h1
      · rw [z] at h1; cases h1; cases h2
    | some o => exact R.src a q n (by rw [← (h.old a o e).2]; exact h1) h2) h.hl
theorem Al.ste (h : Al S S') (dom : ∀ a, S.ow a ≠ none → S.H a ≠ none) (s : Store) : StE S S' s s where
  toFr := h.fr
  ver := VerS.refl s
  ent := fun n e _ _ a p hp _ => h.at dom hp
  oth := fun a hp => h.at dom hp
  slot := fun a i hp => ⟨(h.at dom hp).1, .inl (h.at dom hp).2⟩
theorem Al.refl (R : RlS c S s) : Al S S := ⟨rfl, fun _ _ h => ⟨h, rfl⟩, fun a h => .inl (by
  cases e : S.ow a with
  | none => rfl
  | some q => exact absurd h (R.dom a (by rw [e]; simp))), R.dom, R.hl⟩
theorem StE.trans {S2 : Wd} {s1 s2 : Store} (dom : ∀ a, S.ow a ≠ none → S.H a ≠ none) (a : StE S S1 s s1) (b : StE S1 S2 s1 s2) : StE S S2 s s2 where
  toStC := a.toStC.trans b.toStC
  slot := fun p i hp => by
    obtain ⟨x1, x2⟩ := a.slot p i hp
    rcases x2 with x2 | x2
    · obtain ⟨y1, y2⟩ := b.slot p i x2
      exact ⟨y1.trans x1, y2⟩
    · cases e : S.H p with
      | none => exact absurd e (dom p (by rw [hp]; simp))
      | some o =>
        have h1 : S1.H p = some o := x1.trans e
        obtain ⟨y1, y2⟩ := b.keep p o h1 x2
        exact ⟨y1, .inr y2⟩

/-! ### ownership alone is changed -/
/-- p is q's now -/
def Wd.lab (S : Wd) (p : Addr) (q : Option Pl) : Wd := { S with ow := fun a => if a = p then q else S.ow a }
theorem lab_same {p : Addr} {q : Option Pl} : (S.lab p q).ow p = q := if_pos rfl
theorem lab_ne {p a : Addr} {q : Option Pl} (h : a ≠ p) : (S.lab p q).ow a = S.ow a := if_neg h
/-- a container of one's own is frozen -/
theorem lab_fr {p : Addr} {q : Option Pl} (h : S.ow p ≠ none) : Fr S (S.lab p q) := ⟨fun a o h1 h2 => ⟨h1, by
  rw [lab_ne (fun z => h (by rw [← z]; exact h2))]
  exact h2⟩, [], by simp [Wd.lab]⟩
theorem lab_dom {p : Addr} {q : Option Pl} (dom : ∀ a, S.ow a ≠ none → S.H a ≠ none) (h : S.ow p ≠ none) : ∀ a, (S.lab p q).ow a ≠ none → (S.lab p q).H a ≠ none := fun a ha => by
  by_cases e : a = p
  · subst e; exact dom _ h
  · rw [lab_ne e] at ha; exact dom _ ha
theorem lab_src {p : Addr} {q : Option Pl} (src : ∀ a x n, S.ow a = some x → x.src = some n → n < s.length) (h : ∀ x, q = some x → x.src = none) : ∀ a x n, (S.lab p q).ow a = some x → x.src = some n → n < s.length := fun a x n h1 h2 => by
  by_cases z : a = p
  · subst z
    rw [lab_same] at h1
    rw [h x h1] at h2
    cases h2
  · rw [lab_ne z] at h1
    exact src a x n h1 h2
/-- the tmp at p becomes frozen, or another's -/
theorem lab_tmp {p : Addr} {q : Option Pl} (R : Rl c S e s σ) (h : S.ow p = some .tmp) (hq : ∀ x, q = some x → x.src = none := by intro x hx; cases hx <;> rfl) : Rl c (S.lab p q) e s σ :=
  have ne : ∀ {a : Addr} {x : Pl}, S.ow a = some x → x ≠ .tmp → a ≠ p := fun h1 h2 z => by subst z; rw [h] at h1; cases h1; exact h2 rfl
  R.step (lab_fr (by rw [h]; simp)) (fun a x n hx hn => ⟨rfl, by rw [lab_ne (ne hx (fun z => by subst z; cases hn))]; exact hx⟩) (fun a i hx => ⟨rfl, by rw [lab_ne (ne hx (by simp))]; exact hx⟩) rfl (lab_dom R.dom (by rw [h]; simp)) (lab_src R.src hq) R.hl
/-- where a slot's container stands -/
theorem slot_of {i : Nat} {m : M} (R : Rl c S e s σ) (h : e[i]? = some (some m)) : ∃ v, σ[i]? = some (some v) ∧ RepM c S (.slot i) m v := R.slot i m h
/-- the slot's container is frozen in its place -/
theorem Rl.frzSlot {i : Nat} {m : M} {v : V} (R : Rl c S e s σ) (hm : m.isVal = false) (hv : σ[i]? = some (some v)) (h : RepM c S (.slot i) m v) (hi : i < e.length) :
    ∃ S', Rl c S' (e.set i (some (.val m.frz))) s σ ∧ S'.H = S.H ∧ RepD c S' m.frz v ∧ StE S S' s s := by
  have main : ∀ p, S.ow p = some (.slot i) → (RepD c (S.lab p none) m.frz v) → Rl c (S.lab p none) (e.set i (some (.val m.frz))) s σ ∧ StE S (S.lab p none) s s := fun p hp hd => by
    have fr : Fr S (S.lab p none) := lab_fr (by rw [hp]; simp)
    have ne : ∀ {a : Addr} {x : Pl}, S.ow a = some x → x ≠ .slot i → a ≠ p := fun h1 h2 z => by subst z; rw [hp] at h1; cases h1; exact h2 rfl
    refine ⟨⟨R.toRlS.step fr (fun a x n hx hn => ⟨rfl, by rw [lab_ne (ne hx (fun z => by subst z; cases hn))]; exact hx⟩) rfl (lab_dom R.dom (by rw [hp]; simp)) (lab_src R.src (by intro x hx; cases hx)) R.hl, by rw [List.length_set]; exact R.elen, fun j m' hj => ?_⟩, ?_⟩
    · by_cases z : i = j
      · subst z
        rw [List.getElem?_set_self hi] at hj
        cases hj
        exact ⟨v, hv, hd⟩
      · rw [List.getElem?_set_ne z] at hj
        obtain ⟨v', h1, h2⟩ := R.slot j m' hj
        exact ⟨v', h1, h2.step fr fun a ha => ⟨rfl, by rw [lab_ne (ne ha (fun w => z (by cases w; rfl)))]; exact ha⟩⟩
    · refine ⟨⟨fr, VerS.refl s, fun n en _ _ a x hx hn => ⟨rfl, by rw [lab_ne (ne hx (fun z => by subst z; cases hn))]; exact hx⟩, fun a hx => ⟨rfl, by rw [lab_ne (ne hx (by simp))]; exact hx⟩⟩, fun a j hx => ⟨rfl, ?_⟩⟩
      by_cases z : a = p
      · subst z; exact .inr lab_same
      · exact .inl (by rw [lab_ne z]; exact hx)
  cases m with
  | val d => cases hm
  | ol xs =>
    obtain ⟨p, vs, e1, h1, h2, h3⟩ := h
    have hd : RepD c (S.lab p none) (.lst xs) v := ⟨p, vs, e1, h1, lab_same, h3.mono (lab_fr (by rw [h2]; simp))⟩
    obtain ⟨x, y⟩ := main p h2 hd
    exact ⟨S.lab p none, x, rfl, hd, y⟩
  | od t kvs =>
    obtain ⟨p, vs, e1, h1, h2, h3⟩ := h
    have hd : RepD c (S.lab p none) (.dic t kvs) v := ⟨p, vs, e1, h1, lab_same, h3.mono (lab_fr (by rw [h2]; simp))⟩
    obtain ⟨x, y⟩ := main p h2 hd
    exact ⟨S.lab p none, x, rfl, hd, y⟩

/-! ### reading -/
/-- what stands in the store behind a loc -/
theorem Rl.locs {n : Nat} {a : Addr} {en : Ent} (R : RlS c S s) (ha : S.am[n]? = some a) (he : s[n]? = some en) : S.ow a = some (.obj n) ∧ RepO c S n a en.o := by
  obtain ⟨b, h1, h2, h3⟩ := R.obj n en he
  rw [ha] at h1
  cases h1
  exact ⟨h2, h3⟩
theorem bw_view {m : M} {pl : Pl} {v : V} (R : RlS c S s) (h : RepM c S pl m v) : RepV c S (bw m pl s).1 v := by
  cases m with
  | val d =>
    cases d with
    | loc n =>
      obtain ⟨a, e1, ha⟩ := h
      unfold bw
      dsimp only
      split
      · rename_i xs w he
        obtain ⟨_, vs, h1, h2⟩ := Rl.locs R ha he
        exact ⟨a, vs, e1, h1, h2⟩
      · rename_i t kvs w he
        obtain ⟨_, vs, h1, h2⟩ := Rl.locs R ha he
        exact ⟨a, vs, e1, h1, h2⟩
      · exact ⟨a, e1, ha⟩
    | _ => exact h
  | ol xs => exact RepM.view h
  | od t kvs => exact RepM.view h
theorem bw_at {p : Addr} {pl : Pl} (R : RlS c S s) (h2 : S.ow p = some pl) (hp : pl ≠ .tmp) (st : StE S S' s s') (k : same pl.src s s' = true) : S'.H p = S.H p := by
  have main : ∀ n, pl.src = some n → S'.H p = S.H p := fun n hn => by
    have hlt := R.src p pl n h2 hn
    rw [hn] at k
    have k' : s[n]? = s'[n]? := of_decide_eq_true k
    have he := List.getElem?_eq_getElem hlt
    exact (st.ent n _ he (k' ▸ he) p _ h2 hn).1
  cases pl with
  | slot i => exact (st.slot p i h2).1
  | tmp => exact absurd rfl hp
  | fld n g => exact main n rfl
  | obj n => exact main n rfl
  | oth => exact (st.oth p h2).1
/-- what was read may still be read behind a step that left its object alone -/
theorem bw_keep {m : M} {pl : Pl} {v : V} (R : RlS c S s) (h : RepM c S pl m v) (hp : pl ≠ .tmp) (st : StE S S' s s') (k : same (bw m pl s).2 s s' = true) : RepV c S' (bw m pl s).1 v := by
  have f := st.toFr
  cases m with
  | val d =>
    cases d with
    | loc n =>
      obtain ⟨a, e1, ha⟩ := h
      unfold bw at k ⊢
      dsimp only at k ⊢
      split at k
      · rename_i xs w he
        obtain ⟨h0, vs, h1, h2⟩ := Rl.locs R ha he
        have k' : s[n]? = s'[n]? := of_decide_eq_true k
        obtain ⟨x1, x2⟩ := st.ent n _ he (k' ▸ he) a _ h0 rfl
        exact ⟨a, vs, e1, by rw [x1]; exact h1, h2.mono f⟩
      · rename_i t kvs w he
        obtain ⟨h0, vs, h1, h2⟩ := Rl.locs R ha he
        have k' : s[n]? = s'[n]? := of_decide_eq_true k
        obtain ⟨x1, x2⟩ := st.ent n _ he (k' ▸ he) a _ h0 rfl
        exact ⟨a, vs, e1, by rw [x1]; exact h1, h2.mono f⟩
      · exact ⟨a, e1, f.amAt ha⟩
    | _ => exact RepD.mono f h
  | ol xs =>
    obtain ⟨p, vs, e1, h1, h2, h3⟩ := h
    exact ⟨p, vs, e1, by rw [bw_at R h2 hp st k]; exact h1, h3.mono f⟩
  | od t kvs =>
    obtain ⟨p, vs, e1, h1, h2, h3⟩ := h
    exact ⟨p, vs, e1, by rw [bw_at R h2 hp st k]; exact h1, h3.mono f⟩
/-- a tmp gets another label that is nobody's slot or field -/
theorem lab_ste {p : Addr} {q : Option Pl} (h : S.ow p = some .tmp) : StE S (S.lab p q) s s :=
  have ne : ∀ {a : Addr} {x : Pl}, S.ow a = some x → x ≠ .tmp → a ≠ p := fun h1 h2 z => by subst z; rw [h] at h1; cases h1; exact h2 rfl
  ⟨⟨lab_fr (by rw [h]; simp), VerS.refl s, fun n en _ _ a x hx hn => ⟨rfl, by rw [lab_ne (ne hx (fun z => by subst z; cases hn))]; exact hx⟩, fun a hx => ⟨rfl, by rw [lab_ne (ne hx (by simp))]; exact hx⟩⟩,
    fun a j hx => ⟨rfl, .inl (by rw [lab_ne (ne hx (by simp))]; exact hx)⟩⟩
/-- what was reckoned waits: it is no tmp any more -/
theorem pend {m : M} {pl : Pl} {v : V} (R : Rl c S e s σ) (h : RepM c S pl m v) : ∃ S' pl', Rl c S' e s σ ∧ S'.H = S.H ∧ S'.am = S.am ∧ RepM c S' pl' m v ∧ pl' ≠ .tmp ∧ bw m pl' s = bw m pl s ∧ wk m pl' s = wk m pl s ∧ StE S S' s s := by
  by_cases hp : pl = .tmp
  · subst hp
    have main : ∀ p, S.ow p = some .tmp → RepM c (S.lab p (some .oth)) .oth m v → bw m .oth s = bw m .tmp s → wk m .oth s = wk m .tmp s → ∃ S' pl', Rl c S' e s σ ∧ S'.H = S.H ∧ S'.am = S.am ∧ RepM c S' pl' m v ∧ pl' ≠ .tmp ∧ bw m pl' s = bw m .tmp s ∧ wk m pl' s = wk m .tmp s ∧ StE S S' s s := fun p h1 h2 h3 h4 =>
      ⟨_, .oth, lab_tmp R h1, rfl, rfl, h2, by simp, h3, h4, lab_ste h1⟩
    cases m with
    | val d => exact ⟨S, .oth, R, rfl, rfl, h, by simp, rfl, rfl, StE.refl S s⟩
    | ol xs =>
      obtain ⟨p, vs, e1, h1, h2, h3⟩ := h
      exact main p h2 ⟨p, vs, e1, h1, lab_same, h3.mono (lab_fr (by rw [h2]; simp))⟩ rfl rfl
    | od t kvs =>
      obtain ⟨p, vs, e1, h1, h2, h3⟩ := h
      exact main p h2 ⟨p, vs, e1, h1, lab_same, h3.mono (lab_fr (by rw [h2]; simp))⟩ rfl rfl
  · exact ⟨S, pl, R, rfl, rfl, h, hp, rfl, rfl, StE.refl S s⟩
/-- a result that is data from now on -/
theorem frz_ste {m : M} {v : V} (R : Rl c S e s σ) (h : RepM c S .tmp m v) : ∃ S', Rl c S' e s σ ∧ S'.H = S.H ∧ RepD c S' m.frz v ∧ StE S S' s s := by
  cases m with
  | val d => exact ⟨S, R, rfl, h, StE.refl S s⟩
  | ol xs =>
    obtain ⟨p, vs, e1, h1, h2, h3⟩ := h
    exact ⟨_, lab_tmp (q := none) R h2, rfl, ⟨p, vs, e1, h1, lab_same, h3.mono (lab_fr (by rw [h2]; simp))⟩, lab_ste h2⟩
  | od t kvs =>
    obtain ⟨p, vs, e1, h1, h2, h3⟩ := h
    exact ⟨_, lab_tmp (q := none) R h2, rfl, ⟨p, vs, e1, h1, lab_same, h3.mono (lab_fr (by rw [h2]; simp))⟩, lab_ste h2⟩
end OI

/-! OIc: OI's run as a reading of the hand layer; the lifts of its rules. -/
namespace OI
open PySem PySem.Spec PyProof.Rows L2

def PostG {α β : Type} (c : Cn) (W : WX) (σ : L2.St) (S : Wd) (s : Store) (r : Res α) (rep : Wd → Store → α → β → Prop) (Q : β → Hp → Prop) : Prop :=
  match r with
  | .ok x e' s' => ∀ S' y, Rl c S' e' s' σ → StE S S' s s' → rep S' s' x y → Q y S'.H
  | .err k e' s' => ∀ S', Rl c S' e' s' σ → StE S S' s s' → W (.ref (c.cls k)) none σ S'.H
  | .bad => False
/-- where a value stands -/
def PlOk (σ : L2.St) (S : Wd) (pl : Pl) (v : V) : Prop :=
  match pl with
  | .slot i => σ[i]? = some (some v)
  | .fld n f => ∃ a C dx fs, S.am[n]? = some a ∧ S.H a = some (.ins C dx fs) ∧ fs.lookup (Str.ofString f) = some v
  | .tmp => True
  | _ => False
abbrev rM (c : Cn) (σ : L2.St) : Wd → Store → M × Pl → V → Prop := fun S _ x v => RepM c S x.2 x.1 v ∧ PlOk σ S x.2 v
abbrev rD (c : Cn) : Wd → Store → D → V → Prop := fun S _ d v => RepD c S d v
abbrev rDs (c : Cn) : Wd → Store → List D → List V → Prop := fun S _ d v => RepDs c S d v
abbrev rB : Wd → Store → Bool → Bool → Prop := fun _ _ a b => a = b

/-- the reading: from some state of OI that lies in the heap its run goes on -/
def tG {α β : Type} (c : Cn) (W : WX) (f : Env → Store → Res α) (rep : L2.St → Wd → Store → α → β → Prop) : L2.St → Hp → (β → Hp → Prop) → Prop := fun σ H Q =>
  ∃ S e s, S.H = H ∧ Rl c S e s σ ∧ PostG c W σ S s (f e s) (rep σ) Q
def tE (c : Cn) (W : WX) (f : Env → Store → Res (M × Pl)) : TE := tG c W f (rM c)
def tT (c : Cn) (W : WX) (f : Env → Store → Res (M × Pl)) : TT := tG c W (testB f) fun _ => rB
def tA (c : Cn) (W : WX) (f : Env → Store → Res (List D)) : TA := tG c W f fun _ => rDs c

section
variable {c : Cn} {W : WX} {σ : L2.St} {S : Wd} {s : Store} {e : Env}
theorem PostG.shift {α β : Type} {r : Res α} {rep : Wd → Store → α → β → Prop} {Q : β → Hp → Prop} {S1 : Wd} {s1 : Store} (R : RlS c S s) (st : StE S S1 s s1) (h : PostG c W σ S s r rep Q) : PostG c W σ S1 s1 r rep Q := by
  cases r with
  | ok x e' s' => exact fun S' y R' st' rp => h S' y R' (st.trans R.dom st') rp
  | err k e' s' => exact fun S' R' st' => h S' R' (st.trans R.dom st')
  | bad => exact h
/-- the first part of a run, then the rest of it -/
theorem PostG.bind {α β γ δ : Type} {r : Res α} {k : α → Env → Store → Res γ} {rep : Wd → Store → α → β → Prop} {rep' : Wd → Store → γ → δ → Prop} {Q : δ → Hp → Prop} {G : β → Hp → Prop} (R : RlS c S s) (h : PostG c W σ S s (r.bind k) rep' Q)
    (g : ∀ x e1 s1 S1 y, r = .ok x e1 s1 → Rl c S1 e1 s1 σ → StE S S1 s s1 → rep S1 s1 x y → PostG c W σ S1 s1 (k x e1 s1) rep' Q → G y S1.H) : PostG c W σ S s r rep G := by
  cases r with
  | ok x e1 s1 => exact fun S1 y R1 st rp => g x e1 s1 S1 y rfl R1 st rp (PostG.shift R st h)
  | err k' e1 s1 => exact h
  | bad => exact h
theorem PostG.mono {α β : Type} {r : Res α} {rep : Wd → Store → α → β → Prop} {Q Q' : β → Hp → Prop} (h : PostG c W σ S s r rep Q) (k : ∀ y H, Q y H → Q' y H) : PostG c W σ S s r rep Q' := by
  cases r with
  | ok x e' s' => exact fun S' y R' st' rp => k _ _ (h S' y R' st' rp)
  | err k e' s' => exact h
  | bad => exact h
end

theorem _root_.L2.PE.weak {X : Cx} {a : Expr} {t u : TE} (h : PE X a u) (k : ∀ σ H Q, t σ H Q → u σ H Q) : PE X a t := ⟨fun pins s σ H Q I q => h.run pins s σ H Q I (k σ H Q q)⟩
theorem _root_.L2.PT.weak {X : Cx} {a : Expr} {t u : TT} (h : PT X a u) (k : ∀ σ H Q, t σ H Q → u σ H Q) : PT X a t := ⟨fun pins s σ H Q I q => h.run pins s σ H Q I (k σ H Q q)⟩
theorem _root_.L2.PA.weak {X : Cx} {a : List Expr} {t u : TA} (h : PA X a u) (k : ∀ σ H Q, t σ H Q → u σ H Q) : PA X a t := ⟨fun pos pins s σ H Q I q => h.run pos pins s σ H Q I (k σ H Q q)⟩

section
variable {X : Cx} {c : Cn} {W : WX}

/-! ### values of what was read -/
/-- the end of an expression that lays something new, or nothing -/
theorem end_al {σ : L2.St} {S S' : Wd} {s : Store} {e : Env} {m : M} {v : V} {Q : VK} (R : Rl c S e s σ) (h : PostG c W σ S s (.ok (m, .tmp) e s) (rM c σ) Q) (al : Al S S') (rp : RepM c S' .tmp m v) : Q v S'.H :=
  h S' v (al.rl R) (al.ste R.dom s) ⟨rp, trivial⟩
theorem end_val {σ : L2.St} {S : Wd} {s : Store} {e : Env} {d : D} {v : V} {Q : VK} (R : Rl c S e s σ) (h : PostG c W σ S s (.ok (.val d, .tmp) e s) (rM c σ) Q) (rp : RepD c S d v) : Q v S.H :=
  end_al R h (Al.refl R.toRlS) rp

/-! ### names, constants -/
theorem s_var {i : Nat} {x : Str} {pos : Pos} {R : Runs} (hN : X.N[i]? = some x) (hv : Vis X.env.scope x) (hd : (x == ("__debug__" : Str)) = false) (hcd : (x == ("__classdict__" : Str)) = false) : PE X (.Name x pos) (tE c W (ev R (.var i))) := by
  refine (pe_var hN hv hd hcd).weak fun σ H Q q => ?_
  obtain ⟨S, e, s, rfl, Rr, p⟩ := q
  replace p : PostG c W σ S s (varK e[i]? i e s) (rM c σ) Q := p
  unfold varK at p
  split at p
  · rename_i m hm
    obtain ⟨v, h1, h2⟩ := Rr.slot i m hm
    exact ⟨v, h1, p S v Rr (StE.refl S s) ⟨h2, h1⟩⟩
  · exact p.elim
theorem s_cst_int {i : Int} {j pos} {R : Runs} : PE X (.Constant (.int i) j pos) (tE c W (ev R (.cst (.int i)))) :=
  pe_int.weak fun σ H Q q => by
    obtain ⟨S, e, s, rfl, Rr, p⟩ := q
    exact end_val Rr p rfl
theorem s_cst_bl {i : Bool} {j pos} {R : Runs} : PE X (.Constant (.bool i) j pos) (tE c W (ev R (.cst (.bl i)))) :=
  pe_bl.weak fun σ H Q q => by
    obtain ⟨S, e, s, rfl, Rr, p⟩ := q
    exact end_val Rr p rfl
theorem s_cst_str {i : Str} {j pos} {R : Runs} : PE X (.Constant (.str i) j pos) (tE c W (ev R (.cst (.str i)))) :=
  pe_str.weak fun σ H Q q => by
    obtain ⟨S, e, s, rfl, Rr, p⟩ := q
    exact end_val Rr p rfl
theorem s_cst_non {j pos} {R : Runs} : PE X (.Constant .none j pos) (tE c W (ev R (.cst .non))) :=
  pe_non.weak fun σ H Q q => by
    obtain ⟨S, e, s, rfl, Rr, p⟩ := q
    exact end_val Rr p rfl
/-- a module's constant -/
def GlobOk (c : Cn) (mg : Str → Option Value) (x : String) (d : D) : Prop := ∃ v u, mg (Str.ofString x) = some u ∧ RelV v u ∧ ∀ S, RepD c S d v
theorem s_glob {x : String} {d : D} {pos : Pos} {R : Runs} (hg : Gl X (Str.ofString x)) (h : GlobOk c X.mg x d) (hd : (Str.ofString x == ("__debug__" : Str)) = false) : PE X (.Name (Str.ofString x) pos) (tE c W (ev R (.glob x d))) := by
  obtain ⟨v, u, h1, h2, h3⟩ := h
  exact (pe_glob hg h1 h2 hd).weak fun σ H Q q => by
    obtain ⟨S, e, s, rfl, Rr, p⟩ := q
    exact end_val Rr p (h3 S)

/-! ### two operands -/
/-- by values: what a value-level rule is asked, from what OI knows of two things read -/
def R2of (c : Cn) (k : M → M → Option M) : R2 := fun x y H Q => ∃ S s m1 m2 m, S.H = H ∧ RlS c S s ∧ RepV c S m1 x ∧ RepV c S m2 y ∧ k m1 m2 = some m ∧ ∀ S' v, Al S S' → RepM c S' .tmp m v → Q v S'.H
theorem two_ok {fa fb : Env → Store → Res (M × Pl)} {k : M → M → Env → Store → Res (M × Pl)} {σ : L2.St} {H : Hp} {Q : VK} {rest : V → V → Hp → Prop} (h : tE c W (two fa fb k) σ H Q)
    (hr : ∀ S e s m1 m2 x y, Rl c S e s σ → RepV c S m1 x → RepV c S m2 y → PostG c W σ S s (k m1 m2 e s) (rM c σ) Q → rest x y S.H) :
    tE c W fa σ H fun x H1 => tE c W fb σ H1 fun y H2 => rest x y H2 := by
  obtain ⟨S, e, s, rfl, Rr, p⟩ := h
  refine ⟨S, e, s, rfl, Rr, PostG.bind Rr.toRlS p fun x1 e1 s1 S1 v1 q1 R1 st1 rp1 p1 => ?_⟩
  obtain ⟨S1', pl', R1', hH, ham, rp1', hpl, hbw, _, st1'⟩ := pend R1 rp1.1
  replace p1 := PostG.shift R1.toRlS st1' p1
  refine ⟨S1', e1, s1, hH, R1', PostG.bind R1'.toRlS p1 fun x2 e2 s2 S2 v2 q2 R2 st2 rp2 p2 => ?_⟩
  split at p2
  · rename_i hs
    rw [← hbw] at hs p2
    exact hr S2 e2 s2 _ _ v1 v2 R2 (bw_keep R1'.toRlS rp1' hpl st2 hs) (bw_view R2.toRlS rp2.1) p2
  · exact p2.elim
theorem out_ok {o : Option M} {σ : L2.St} {S : Wd} {s : Store} {e : Env} {Q : VK} (h : PostG c W σ S s (out o e s) (rM c σ) Q) : ∃ m, o = some m ∧ PostG c W σ S s (.ok (m, .tmp) e s) (rM c σ) Q := by
  unfold out at h
  split at h
  · exact ⟨_, rfl, h⟩
  · exact h.elim
theorem outB_ok {o : Option Bool} {σ : L2.St} {S : Wd} {s : Store} {e : Env} {Q : VK} (h : PostG c W σ S s (outB o e s) (rM c σ) Q) : ∃ m, o = some m ∧ PostG c W σ S s (.ok (.val (.bl m), .tmp) e s) (rM c σ) Q := by
  unfold outB at h
  split at h
  · exact ⟨_, rfl, h⟩
  · exact h.elim
theorem two_R2 {fa fb : Env → Store → Res (M × Pl)} {k : M → M → Option M} {σ : L2.St} {H : Hp} {Q : VK} (h : tE c W (two fa fb fun x y => out (k x y)) σ H Q) :
    tOp (R2of c k) (tE c W fa) (tE c W fb) σ H Q :=
  two_ok h fun S e s m1 m2 x y Rr r1 r2 p => by
    obtain ⟨m, hm, p⟩ := out_ok p
    exact ⟨S, s, m1, m2, m, rfl, Rr.toRlS, r1, r2, hm, fun S' v al rp => end_al Rr p al rp⟩
theorem s_bin {op : BOp} {o : Operator} {a b : Expr} {ia ib : IE} {pos : Pos} {R : Runs} (ho : OpR X (binaryOp o) (R2of c (bin op))) (ha : PE X a (tE c W (ev R ia))) (hb : PE X b (tE c W (ev R ib))) : PE X (.BinOp a o b pos) (tE c W (ev R (.bin op ia ib))) :=
  (pe_op ho ha hb).weak fun σ H Q q => two_R2 q
end
end OI

/-! OId: the operations by values. -/
namespace OI
open PySem PySem.Spec PyProof.Rows L2

/-- an object is laid at a new place -/
def Wd.put (S : Wd) (p : Addr) (o : HO) (q : Option Pl) : Wd := ⟨S.am, fun a => if a = p then q else S.ow a, upd S.H p o⟩
def HLo (o : HO) : Prop := (∀ xs, o = .lst xs → xs.length ≤ 16777216) ∧ (∀ xs, o = .tup xs → xs.length ≤ 16777216) ∧ (∀ xs, o = .dK xs → xs.length ≤ 16777216) ∧ ∀ ob u, o ≠ .frz ob u
theorem HLo.lst {xs : List V} (h : xs.length ≤ 16777216) : HLo (.lst xs) := ⟨fun _ e => (by cases e; exact h), fun _ e => (by cases e), fun _ e => (by cases e), fun _ _ e => (by cases e)⟩
theorem HLo.tup {xs : List V} (h : xs.length ≤ 16777216) : HLo (.tup xs) := ⟨fun _ e => (by cases e), fun _ e => (by cases e; exact h), fun _ e => (by cases e), fun _ _ e => (by cases e)⟩
theorem HL.put {H : Hp} (h : HL H) {p : Addr} {o : HO} (ho : HLo o) : HL (upd H p o) := fun a => by
  by_cases z : a = p
  · subst z
    rw [upd_same]
    exact ⟨fun xs e => ho.1 xs (Option.some.inj e), fun xs e => ho.2.1 xs (Option.some.inj e), fun xs e => ho.2.2.1 xs (Option.some.inj e)⟩
  · rw [upd_ne z]
    exact h a
variable {c : Cn} {S : Wd} {s : Store}
theorem put_ow {p : Addr} {o : HO} {q : Option Pl} : (S.put p o q).ow p = q := if_pos rfl
theorem put_H {p : Addr} {o : HO} {q : Option Pl} : (S.put p o q).H p = some o := upd_same
theorem Al.lay (R : RlS c S s) {p : Addr} {o : HO} {q : Option Pl} (hp : S.H p = none) (hq : q = none ∨ q = some .tmp) (ho : HLo o) : Al S (S.put p o q) where
  am := rfl
  old := fun a u e => ⟨by
    show upd S.H p o a = _
    rw [upd_ne (ne_of_none e hp)]; exact e, if_neg (ne_of_none e hp)⟩
  new := fun a e => by
    by_cases z : a = p
    · subst z
      rw [put_ow]
      exact hq
    · have e2 : (S.put p o q).ow a = S.ow a := if_neg z
      rw [e2]
      cases w : S.ow a with
      | none => exact .inl rfl
      | some x => exact absurd e (R.dom a (by rw [w]; simp))
  dom := fun a e => by
    by_cases z : a = p
    · subst z
      rw [put_H]; simp
    · have e2 : (S.put p o q).ow a = S.ow a := if_neg z
      rw [e2] at e
      show upd S.H p o a ≠ none
      rw [upd_ne z]
      exact R.dom a e
  hl := R.hl.put ho
/-- a new list of one's own, a new tuple -/
theorem new_lst (R : RlS c S s) {p : Addr} {vs : List V} {ds : List D} (hp : S.H p = none) (r : RepDs c S ds vs) (hl : vs.length ≤ 16777216) : ∃ S', Al S S' ∧ S'.H = upd S.H p (.lst vs) ∧ RepM c S' .tmp (.ol ds) (.ref p) :=
  have al := Al.lay R (q := some .tmp) hp (.inr rfl) (HLo.lst hl)
  ⟨_, al, rfl, p, vs, rfl, put_H, put_ow, r.mono al.fr⟩
theorem new_tup (R : RlS c S s) {p : Addr} {vs : List V} {ds : List D} (hp : S.H p = none) (r : RepDs c S ds vs) (hl : vs.length ≤ 16777216) : ∃ S', Al S S' ∧ S'.H = upd S.H p (.tup vs) ∧ RepM c S' .tmp (.val (.tup ds)) (.ref p) :=
  have al := Al.lay R (q := none) hp (.inl rfl) (HLo.tup hl)
  ⟨_, al, rfl, p, vs, rfl, .inl ⟨.inl put_H, put_ow⟩, r.mono al.fr⟩

/-- what a list is, whose ever -/
theorem lst1_of {m : M} {v : V} {ds : List D} (h : m.lst1? = some ds) (r : RepV c S m v) : ∃ p vs, v = .ref p ∧ S.H p = some (.lst vs) ∧ RepDs c S ds vs := by
  cases m with
  | val d =>
    cases d with
    | lst xs =>
      cases h
      obtain ⟨p, vs, e, h1, _, h2⟩ := r
      exact ⟨p, vs, e, h1, h2⟩
    | _ => cases h
  | ol xs =>
    cases h
    exact r
  | od t kvs => cases h
theorem lst_of {m : M} {v : V} {ds : List D} (h : m.lst? = some ds) (r : RepV c S m v) : ∃ p vs, v = .ref p ∧ SqL c.K S.H p vs ∧ RepDs c S ds vs := by
  cases m with
  | val d =>
    cases d with
    | lst xs =>
      cases h
      obtain ⟨p, vs, e, h1, _, h2⟩ := r
      exact ⟨p, vs, e, SqL.of h1, h2⟩
    | scr ns =>
      cases h
      obtain ⟨p, e, h1⟩ := r
      exact ⟨p, _, e, h1.sq, RepDs.ints ns⟩
    | _ => cases h
  | ol xs =>
    cases h
    obtain ⟨p, vs, e, h1, h2⟩ := r
    exact ⟨p, vs, e, SqL.of h1, h2⟩
  | od t kvs => cases h
theorem seq_of {m : M} {v : V} {ds : List D} (h : m.seq? = some ds) (r : RepV c S m v) : ∃ p vs, v = .ref p ∧ (SqL c.K S.H p vs ∨ SqT c.K S.H p vs) ∧ RepDs c S ds vs := by
  have other : m.lst? = some ds → ∃ p vs, v = .ref p ∧ (SqL c.K S.H p vs ∨ SqT c.K S.H p vs) ∧ RepDs c S ds vs := fun h => by
    obtain ⟨p, vs, e, h1, h2⟩ := lst_of h r
    exact ⟨p, vs, e, .inl h1, h2⟩
  cases m with
  | val d =>
    cases d with
    | tup xs =>
      cases h
      obtain ⟨p, vs, e, h1, h2⟩ := r
      exact ⟨p, vs, e, .inr h1.sq, h2⟩
    | _ => exact other h
  | _ => exact other h
theorem len_le {X : Cx} {pins : List (Addr × Obj)} {σ : L2.St} {sh : Shared} (I : Inv X pins σ S.H sh) (hK : X.K = c.K) {p : Addr} {vs : List V} (h : SqL c.K S.H p vs ∨ SqT c.K S.H p vs) : vs.length ≤ 16777216 := by
  rw [← hK] at h
  rcases h with h | h
  · obtain ⟨its, _, _, hz⟩ := I.list h
    rw [sizeLine_eq] at hz
    exact hz
  · obtain ⟨its, _, _, hz⟩ := I.tuple h
    rw [sizeLine_eq] at hz
    exact hz

/-- two ints -/
theorem intM_of {f : Int → Int → Option Int} {m1 m2 m : M} {x y : V} (h : intM f m1 m2 = some m) (r1 : RepV c S m1 x) (r2 : RepV c S m2 y) : ∃ i j k, x = .int i ∧ y = .int j ∧ f i j = some k ∧ m = .val (.int k) := by
  unfold intM at h
  split at h
  · rename_i i j
    cases e : f i j with
    | none => rw [e] at h; cases h
    | some k =>
      rw [e] at h
      cases h
      exact ⟨i, j, k, r1, r2, e, rfl⟩
  · cases h
section
variable {X : Cx}
theorem v_int {g : Value → Value → Sem Value} {f : Int → Int → Option Int} {C : Int → Int → Prop} {k : Int → Int → Int} (h : OpR X g (rI C fun i j => .int (k i j))) (hf : ∀ i j z, f i j = some z → C i j ∧ z = k i j) : OpR X g (R2of c (intM f)) := by
  intro pins s σ H x y v u Q I rx ry h1
  obtain ⟨S, st, m1, m2, m, rfl, R, r1, r2, hm, q⟩ := h1
  obtain ⟨i, j, z, rfl, rfl, hz, rfl⟩ := intM_of hm r1 r2
  obtain ⟨hc, rfl⟩ := hf i j z hz
  exact h pins s σ S.H _ _ v u Q I rx ry ⟨i, j, rfl, rfl, hc, q S _ (Al.refl R) rfl⟩
theorem rI_of {g : Value → Value → Sem Value} {k : Int → Int → Int} (h : OpR X g (rI0 fun i j => .int (k i j))) : OpR X g (rI (fun _ _ => True) fun i j => .int (k i j)) := fun pins s σ H x y v u Q I rx ry q => by
  obtain ⟨i, j, e1, e2, _, q⟩ := q
  exact h pins s σ H x y v u Q I rx ry ⟨i, j, e1, e2, q⟩
theorem v_sub : OpR X (binaryOp .Sub) (R2of c (bin .sub)) := v_int (rI_of op_sub) fun i j z h => ⟨trivial, (Option.some.inj h).symm⟩
theorem v_fdiv : OpR X (binaryOp .FloorDiv) (R2of c (bin .fdiv)) := v_int op_fdivW fun i j z h => by
  split at h
  · rename_i hc
    exact ⟨hc, (Option.some.inj h).symm⟩
  · cases h
theorem v_mod : OpR X (binaryOp .Mod) (R2of c (bin .mod)) := v_int op_mod fun i j z h => by
  split at h
  · rename_i hc
    exact ⟨hc, (Option.some.inj h).symm⟩
  · cases h
theorem v_pow : OpR X (binaryOp .Pow) (R2of c (bin .pow)) := v_int op_pow fun i j z h => by
  split at h
  · rename_i hc
    exact ⟨hc, (Option.some.inj h).symm⟩
  · cases h
theorem lim_le {n : Nat} (h : n ≤ LIM) : n ≤ sizeLine := by
  rw [sizeLine_eq]
  exact h
theorem v_add (hK : X.K = c.K) : OpR X (binaryOp .Add) (R2of c (bin .add)) := by
  intro pins s σ H x y v u Q I rx ry h
  obtain ⟨S, st, m1, m2, m, rfl, R, r1, r2, hm, q⟩ := h
  replace hm : addM m1 m2 = some m := hm
  unfold addM at hm
  split at hm
  · cases hm
    cases r1
    cases r2
    exact op_add pins s σ S.H _ _ v u Q I rx ry ⟨_, _, rfl, rfl, q S _ (Al.refl R) rfl⟩
  · split at hm
    · rename_i hl
      cases hm
      cases r1
      cases r2
      exact op_add_str pins s σ S.H _ _ v u Q I rx ry ⟨_, _, rfl, rfl, lim_le hl, q S _ (Al.refl R) rfl⟩
    · cases hm
  · split at hm
    · rename_i xs ys hl
      cases hm
      obtain ⟨p, vs, rfl, h1, h2⟩ := r1
      obtain ⟨p', vs', rfl, h1', h2'⟩ := r2
      have hl' : vs.length + vs'.length ≤ LIM := by rw [h2.length, h2'.length]; exact hl
      refine op_catA pins s σ S.H _ _ v u Q I rx ry ⟨p, p', vs, vs', rfl, rfl, by rw [hK]; exact h1.sq, by rw [hK]; exact h1'.sq, lim_le hl', fun z => ?_, fun z1 z2 => ?_, fun z1 z2 a na => ?_⟩
      · subst z
        have e1 : xs = [] := by
          have := h2.length
          exact List.eq_nil_of_length_eq_zero this.symm
        subst e1
        exact q S _ (Al.refl R) ⟨p', vs', rfl, h1', h2'⟩
      · subst z2
        have e1 : ys = [] := by
          have := h2'.length
          exact List.eq_nil_of_length_eq_zero this.symm
        subst e1
        rw [List.append_nil] at q
        exact q S _ (Al.refl R) ⟨p, vs, rfl, h1, h2⟩
      · obtain ⟨S', al, hH, rp⟩ := new_tup R na (h2.append h2') (by rw [List.length_append]; exact hl')
        have := q S' _ al rp
        rw [hH] at this
        exact this
    · cases hm
  · rename_i m1 m2 _ _ _
    split at hm
    · rename_i xs ys e1 e2
      split at hm
      · rename_i hl
        cases hm
        obtain ⟨p, vs, rfl, h1, h2⟩ := lst1_of e1 r1
        obtain ⟨p', vs', rfl, h1', h2'⟩ := lst1_of e2 r2
        have hl' : vs.length + vs'.length ≤ LIM := by rw [h2.length, h2'.length]; exact hl
        refine op_cat pins s σ S.H _ _ v u Q I rx ry ⟨p, p', vs, vs', rfl, rfl, h1, h1', lim_le hl', fun a na => ?_⟩
        obtain ⟨S', al, hH, rp⟩ := new_lst R na (h2.append h2') (by rw [List.length_append]; exact hl')
        have := q S' _ al rp
        rw [hH] at this
        exact this
      · cases hm
    · cases hm
end
end OI

/-! OIe: comparisons, subscripts by values. -/
namespace OI
open PySem PySem.Spec PyProof.Rows L2
variable {c : Cn} {S : Wd} {s : Store}
/-- a comparison: the heap stays -/
def R2b (c : Cn) (k : M → M → Option Bool) : R2 := fun x y H Q => ∃ S s m1 m2 b, S.H = H ∧ RlS c S s ∧ RepV c S m1 x ∧ RepV c S m2 y ∧ k m1 m2 = some b ∧ Q (.bl b) H

mutual
theorem dp_of (S : Wd) : ∀ {d : D} {v : V}, RepD c S d v → (toPy d).canLay0 = true → Dp c.K S.H v (toPy d)
  | .non, _, h, _ => by cases h; exact .non
  | .bl b, _, h, _ => by cases h; exact .bl b
  | .int i, _, h, _ => by cases h; exact .int i
  | .str x, _, h, _ => by cases h; exact .str x
  | .tup xs, _, ⟨p, vs, e, h1, h2⟩, l => by
    subst e
    exact .tup h1.sq (dps_of S h2 (by simpa [toPy, PyData.canLay0] using l))
  | .lst xs, _, ⟨p, vs, e, h1, _, h2⟩, l => by
    subst e
    exact .lst (SqL.of h1) (dps_of S h2 (by simpa [toPy, PyData.canLay0] using l))
  | .scr ns, _, ⟨p, e, h1⟩, l => by
    subst e
    exact .lst h1.sq (dpi_of ns)
  | .dic _ _, _, _, l => by simp [toPy, PyData.canLay0] at l
  | .loc _, _, _, l => by simp [toPy, PyData.canLay0] at l
  | .exn _, _, _, l => by simp [toPy, PyData.canLay0] at l
  | .lam _ _, _, _, l => by simp [toPy, PyData.canLay0] at l
theorem dps_of (S : Wd) : ∀ {d : List D} {v : List V}, RepDs c S d v → PyData.canLayAll0 (toPys d) = true → DpAll c.K S.H v (toPys d)
  | [], _, h, _ => by rw [show _ = [] from h]; exact .nil
  | d :: ds, _, ⟨v, r, e, h1, h2⟩, l => by
    subst e
    have l' : (toPy d).canLay0 = true ∧ PyData.canLayAll0 (toPys ds) = true := by simpa [toPys, PyData.canLayAll0] using l
    exact .cons (dp_of S h1 l'.1) (dps_of S h2 l'.2)
theorem dpi_of {S : Wd} : ∀ ns : List Int, DpAll c.K S.H (ns.map V.int) (ns.map PyData.int)
  | [] => .nil
  | n :: ns => .cons (.int n) (dpi_of ns)
end
theorem dpv_of {m : M} {v : V} (r : RepV c S m v) (l : (toPy m.frz).canLay0 = true) : Dp c.K S.H v (toPy m.frz) := by
  cases m with
  | val d => exact dp_of S r l
  | ol xs =>
    obtain ⟨p, vs, e, h1, h2⟩ := r
    subst e
    exact .lst (SqL.of h1) (dps_of S h2 (by simpa [M.frz, toPy, PyData.canLay0] using l))
  | od t kvs => simp [M.frz, toPy, PyData.canLay0] at l
theorem frz_str {m : M} {x : Str} {v : V} (h : m.frz = .str x) (r : RepV c S m v) : v = .str x := by
  cases m with
  | val d =>
    have e : d = .str x := h
    subst e
    exact r
  | ol xs => cases h
  | od t kvs => cases h

theorem scal_str (x y : Str) : scal (.str x) (.str y) = true := rfl
section
variable {X : Cx}
theorem eqB_cases {d e : D} {b : Bool} (h : eqB d e = some b) : (∃ x y, d = .str x ∧ e = .str y ∧ b = decide (x = y)) ∨ (cmpOk d e = true ∧ b = eqv d e) := by
  unfold eqB at h
  split at h
  · cases h
    exact .inl ⟨_, _, rfl, rfl, rfl⟩
  · split at h
    · rename_i hc
      cases h
      exact .inr ⟨hc, rfl⟩
    · cases h
theorem v_eq (hK : X.K = c.K) (hu : X.A.units + 64 < cLine) : OpR X (compareOp .Eq) (R2b c (cmp .eq)) := by
  intro pins s σ H x y v u Q I rx ry h
  obtain ⟨S, st, m1, m2, b, rfl, R, r1, r2, hm, q⟩ := h
  rcases eqB_cases hm with ⟨z, w, e1, e2, rfl⟩ | ⟨hc, rfl⟩
  · obtain rfl := frz_str e1 r1
    obtain rfl := frz_str e2 r2
    refine op_eq pins s σ S.H _ _ v u Q I rx ry ⟨rfl, ?_⟩
    rw [show decide (V.str z = V.str w) = decide (z = w) from by rw [decide_eq_decide]; exact ⟨fun h => by cases h; rfl, fun h => by rw [h]⟩]
    exact q
  · unfold cmpOk at hc
    simp only [Bool.and_eq_true, decide_eq_true_eq] at hc
    obtain ⟨⟨l1, l2⟩, l3⟩ := hc
    have d1 := dpv_of r1 l1
    have d2 := dpv_of r2 l2
    rw [← hK] at d1 d2
    obtain ⟨as, g1⟩ := Dp.reads I _ x v d1 rx
    obtain ⟨bs, g2⟩ := Dp.reads I _ y u d2 ry
    exact SeqAt.compareEq_reads g1 g2 l1 l2 (by unfold D.deep at l3; omega) ⟨.bl _, S.H, I, rfl, q⟩
theorem v_ne (hK : X.K = c.K) (hu : X.A.units + 64 < cLine) : OpR X (compareOp .NotEq) (R2b c (cmp .ne)) := by
  intro pins s σ H x y v u Q I rx ry h
  obtain ⟨S, st, m1, m2, b, rfl, R, r1, r2, hm, q⟩ := h
  have hm : (eqB m1.frz m2.frz).map (fun c => !c) = some b := hm
  cases e : eqB m1.frz m2.frz with
  | none => rw [e] at hm; cases hm
  | some b' =>
    rw [e] at hm
    cases hm
    rcases eqB_cases e with ⟨z, w, e1, e2, rfl⟩ | ⟨hc, rfl⟩
    · obtain rfl := frz_str e1 r1
      obtain rfl := frz_str e2 r2
      refine op_ne pins s σ S.H _ _ v u Q I rx ry ⟨rfl, ?_⟩
      rw [show decide (V.str z = V.str w) = decide (z = w) from by rw [decide_eq_decide]; exact ⟨fun h => by cases h; rfl, fun h => by rw [h]⟩]
      exact q
    · unfold cmpOk at hc
      simp only [Bool.and_eq_true, decide_eq_true_eq] at hc
      obtain ⟨⟨l1, l2⟩, l3⟩ := hc
      have d1 := dpv_of r1 l1
      have d2 := dpv_of r2 l2
      rw [← hK] at d1 d2
      obtain ⟨as, g1⟩ := Dp.reads I _ x v d1 rx
      obtain ⟨bs, g2⟩ := Dp.reads I _ y u d2 ry
      exact SeqAt.compareNe_reads g1 g2 l1 l2 (by unfold D.deep at l3; omega) ⟨.bl _, S.H, I, rfl, q⟩
theorem cmpI_of {op : COp} (h1 : op ≠ .eq) (h2 : op ≠ .ne) (h3 : op ≠ .isin) (h4 : op ≠ .nin) {m1 m2 : M} {b : Bool} {x y : V} (h : cmp op m1 m2 = some b) (r1 : RepV c S m1 x) (r2 : RepV c S m2 y) : ∃ i j, x = .int i ∧ y = .int j ∧ cmpI op i j = some b := by
  unfold cmp at h
  split at h <;> first | contradiction | skip
  split at h
  · exact ⟨_, _, r1, r2, h⟩
  · cases h
theorem v_lt : OpR X (compareOp .Lt) (R2b c (cmp .lt)) := by
  intro pins s σ H x y v u Q I rx ry h
  obtain ⟨S, st, m1, m2, b, rfl, R, r1, r2, hm, q⟩ := h
  obtain ⟨i, j, rfl, rfl, e⟩ := cmpI_of (by simp) (by simp) (by simp) (by simp) hm r1 r2
  cases e
  exact op_lt pins s σ S.H _ _ v u Q I rx ry ⟨i, j, rfl, rfl, q⟩
theorem v_le : OpR X (compareOp .LtE) (R2b c (cmp .le)) := by
  intro pins s σ H x y v u Q I rx ry h
  obtain ⟨S, st, m1, m2, b, rfl, R, r1, r2, hm, q⟩ := h
  obtain ⟨i, j, rfl, rfl, e⟩ := cmpI_of (by simp) (by simp) (by simp) (by simp) hm r1 r2
  cases e
  exact op_le pins s σ S.H _ _ v u Q I rx ry ⟨i, j, rfl, rfl, q⟩
theorem v_gt : OpR X (compareOp .Gt) (R2b c (cmp .gt)) := by
  intro pins s σ H x y v u Q I rx ry h
  obtain ⟨S, st, m1, m2, b, rfl, R, r1, r2, hm, q⟩ := h
  obtain ⟨i, j, rfl, rfl, e⟩ := cmpI_of (by simp) (by simp) (by simp) (by simp) hm r1 r2
  cases e
  exact op_gt pins s σ S.H _ _ v u Q I rx ry ⟨i, j, rfl, rfl, q⟩
theorem v_ge : OpR X (compareOp .GtE) (R2b c (cmp .ge)) := by
  intro pins s σ H x y v u Q I rx ry h
  obtain ⟨S, st, m1, m2, b, rfl, R, r1, r2, hm, q⟩ := h
  obtain ⟨i, j, rfl, rfl, e⟩ := cmpI_of (by simp) (by simp) (by simp) (by simp) hm r1 r2
  cases e
  exact op_ge pins s σ S.H _ _ v u Q I rx ry ⟨i, j, rfl, rfl, q⟩
end
end OI

/-! OIf: dicts, membership, subscripts, slices by values. -/
namespace OI
open PySem PySem.Spec PyProof.Rows L2
variable {c : Cn} {S : Wd} {s : Store}

theorem keyOf_V {k : D} {v : V} (h : k.flatKey = true) (r : RepD c S k v) : v = kV (keyOf k) := by
  cases k with
  | int i => exact r
  | str x => exact r
  | _ => cases h
theorem keyOf_inj {k k' : D} (h : k.flatKey = true) (h' : k'.flatKey = true) (e : keyOf k = keyOf k') : k = k' := by
  cases k with
  | int i =>
    cases k' with
    | int j => cases e; rfl
    | str y => cases e
    | _ => cases h'
  | str x =>
    cases k' with
    | int j => cases e
    | str y => cases e; rfl
    | _ => cases h'
  | _ => cases h
/-- the pairs as they lie -/
abbrev kpairs (kvs : List (D × D)) (vs : List V) : List (Key × V) := ((kvs.map (·.1)).zip vs).map fun q => (keyOf q.1, q.2)
theorem kget {k : D} (hk : k.flatKey = true) : ∀ {kvs : List (D × D)} {vs : List V}, RepKs c S false kvs vs →
    (∀ d, dget kvs k = some d → ∃ v, valV (kpairs kvs vs) (keyOf k) = some v ∧ RepD c S d v) ∧ (dget kvs k = none → valV (kpairs kvs vs) (keyOf k) = none)
  | [], _, h => by
    rw [show _ = [] from h]
    exact ⟨fun d e => (by cases e), fun _ => rfl⟩
  | (a, d) :: r, _, ⟨v, w, e, ha, h1, h2⟩ => by
    subst e
    obtain ⟨ih1, ih2⟩ := kget hk h2
    by_cases z : a = k
    · subst z
      have e1 : dget ((a, d) :: r) a = some d := by simp [dget]
      have e2 : valV (kpairs ((a, d) :: r) (v :: w)) (keyOf a) = some v := by simp [kpairs, valV]
      rw [e1, e2]
      exact ⟨fun d' q => ⟨v, rfl, by cases q; exact h1⟩, fun q => by cases q⟩
    · have e1 : dget ((a, d) :: r) k = dget r k := by simp [dget, z]
      have hne : ¬ keyOf a = keyOf k := fun q => z (keyOf_inj ha hk q)
      have e2 : valV (kpairs ((a, d) :: r) (v :: w)) (keyOf k) = valV (kpairs r w) (keyOf k) := by simp [kpairs, valV, hne]
      rw [e1, e2]
      exact ⟨ih1, ih2⟩
theorem dic_of {m : M} {v : V} {t : Bool} {kvs : List (D × D)} (h : m.dic? = some (t, kvs)) (r : RepV c S m v) : ∃ p vs, v = .ref p ∧ S.H p = some (dHO c p t (kvs.map (·.1)) vs) ∧ RepKs c S t kvs vs := by
  cases m with
  | val d =>
    cases d with
    | dic t' kvs' =>
      cases h
      obtain ⟨p, vs, e, h1, _, h2⟩ := r
      exact ⟨p, vs, e, h1, h2⟩
    | _ => cases h
  | ol xs => cases h
  | od t' kvs' =>
    cases h
    exact r
section
variable {X : Cx} {pins : List (Addr × Obj)} {σ : L2.St} {H : Hp} {sh : Shared}
/-- dicts whose keys are tuples: not yet -/
theorem no_true {p : Addr} {ks : List D} {vs : List V} (I : Inv X pins σ H sh) (h : H p = some (dHO c p true ks vs)) : False := by
  obtain ⟨f, _⟩ := I.hok p _ h
  exact f
/-- what a dict gives for a key -/
theorem dget_ok {p : Addr} {t : Bool} {kvs : List (D × D)} {vs : List V} {k : D} {y : V} (I : Inv X pins σ S.H sh) (h : S.H p = some (dHO c p t (kvs.map (·.1)) vs)) (r : RepKs c S t kvs vs) (hk : keyOk t k = true) (rk : RepD c S k y) :
    ∃ o, DGet S.H p y o ∧ (∀ d, dget kvs k = some d → ∃ v, o = some v ∧ RepD c S d v) ∧ (dget kvs k = none → o = none) := by
  cases t with
  | true => exact (no_true I h).elim
  | false =>
    have hk : k.flatKey = true := hk
    obtain ⟨g1, g2⟩ := kget hk r
    exact ⟨valV (kpairs kvs vs) (keyOf k), .inl ⟨_, keyOf k, .inl h, keyOf_V hk rk, rfl⟩, g1, g2⟩
end

/-! ### in -/
theorem flat_V {d : D} {v : V} (h : d.flat = true) (r : RepD c S d v) : flatV v = true := by
  cases d <;> first | (cases r; rfl) | cases h
theorem flat_eqv {d e : D} {v w : V} (hd : d.flat = true) (he : e.flat = true) (rd : RepD c S d v) (re : RepD c S e w) : eqV v w = eqv d e := by
  cases d <;> first | cases hd | skip
  all_goals (cases e <;> first | cases he | skip)
  all_goals (cases rd; cases re; rfl)
theorem flats_V : ∀ {ds : List D} {vs : List V}, ds.all D.flat = true → RepDs c S ds vs → vs.all flatV = true
  | [], _, _, h => by rw [show _ = [] from h]; rfl
  | d :: ds, _, hf, ⟨v, r, e, h1, h2⟩ => by
    subst e
    rw [List.all_cons, Bool.and_eq_true] at hf ⊢
    exact ⟨flat_V hf.1 h1, flats_V hf.2 h2⟩
theorem any_eqv {d : D} {v : V} (hd : d.flat = true) (rd : RepD c S d v) : ∀ {ds : List D} {vs : List V}, ds.all D.flat = true → RepDs c S ds vs → inV v vs = ds.any fun y => eqv y d
  | [], _, _, h => by rw [show _ = [] from h]; rfl
  | e :: ds, _, hf, ⟨w, r, q, h1, h2⟩ => by
    subst q
    rw [List.all_cons, Bool.and_eq_true] at hf
    have ih := any_eqv hd rd hf.2 h2
    unfold inV at ih ⊢
    rw [List.any_cons, List.any_cons, ih, flat_eqv hf.1 hd h1 rd]
theorem toPys_map : ∀ ds : List D, toPys ds = ds.map toPy
  | [] => rfl
  | d :: ds => by rw [toPys, List.map_cons, toPys_map ds]

inductive InHow (c : Cn) (S : Wd) (x y : V) (b : Bool) : Prop where
  | sign (n : Nat) (z : Str) : x = .str ⟨#[n]⟩ → y = .str z → b = decide (n ∈ z.cps.toList) → InHow c S x y b
  | dic (p : Addr) (t : Bool) (kvs : List (D × D)) (vs : List V) (k : D) : y = .ref p → S.H p = some (dHO c p t (kvs.map (·.1)) vs) → RepKs c S t kvs vs → keyOk t k = true → RepD c S k x → b = (dget kvs k).isSome → InHow c S x y b
  | flat (p : Addr) (vs : List V) : y = .ref p → (SqL c.K S.H p vs ∨ SqT c.K S.H p vs) → flatV x = true → vs.all flatV = true → b = inV x vs → InHow c S x y b
  | deep (d : PyData) (ds : List PyData) : Dp c.K S.H x d → Dp c.K S.H y (.list ds) → SeqAt.shaped d = true → (PyData.list ds).canLay0 = true → b = (ds.any fun z => PyData.eqv z d) → InHow c S x y b
theorem sign_eq {x : Str} (h : x.length = 1) : x = ⟨#[x.cps.getD 0 0]⟩ := by
  obtain ⟨a⟩ := x
  have h : a.size = 1 := h
  obtain ⟨l⟩ := a
  cases l with
  | nil => simp at h
  | cons q r =>
    cases r with
    | nil => rfl
    | cons q2 r2 => simp at h
theorem lst_toPy {m : M} {ds : List D} {v : V} (h : m.lst? = some ds) (r : RepV c S m v) (l : (D.lst ds).lay = true) : Dp c.K S.H v (.list (toPys ds)) := by
  have hl : (toPy m.frz).canLay0 = true := by
    cases m with
    | val d =>
      cases d with
      | lst xs => cases h; exact l
      | scr ns =>
        cases h
        simp only [M.frz, toPy, PyData.canLay0]
        clear r l
        induction ns with
        | nil => rfl
        | cons n ns ih => simp [PyData.canLayAll0, PyData.canLay0, ih]
      | _ => cases h
    | ol xs => cases h; exact l
    | od t kvs => cases h
  have e : toPy m.frz = .list (toPys ds) := by
    cases m with
    | val d =>
      cases d with
      | lst xs => cases h; rfl
      | scr ns =>
        cases h
        rw [toPys_map, List.map_map]
        rfl
      | _ => cases h
    | ol xs => cases h; rfl
    | od t kvs => cases h
  rw [← e]
  exact dpv_of r hl
theorem isIn_how {m1 m2 : M} {b : Bool} {x y : V} (h : isIn m1 m2 = some b) (r1 : RepV c S m1 x) (r2 : RepV c S m2 y) : InHow c S x y b := by
  unfold isIn at h
  split at h
  · rename_i d
    split at h
    · rename_i z
      split at h
      · rename_i w
        split at h
        · rename_i h1
          cases h
          cases r1
          cases r2
          refine .sign (w.cps.getD 0 0) z (by rw [← sign_eq h1]) rfl rfl
        · cases h
      · cases h
    · split at h
      · rename_i t kvs hd
        split at h
        · rename_i hk
          cases h
          obtain ⟨p, vs, e, h1, h2⟩ := dic_of hd r2
          exact .dic p t kvs vs d e h1 h2 hk r1 rfl
        · cases h
      · split at h
        · rename_i ys hs
          split at h
          · rename_i hf
            cases h
            rw [Bool.and_eq_true] at hf
            obtain ⟨p, vs, e, h1, h2⟩ := seq_of hs r2
            exact .flat p vs e h1 (flat_V hf.1 r1) (flats_V hf.2 h2) (any_eqv hf.1 r1 hf.2 h2).symm
          · split at h
            · rename_i hf
              cases h
              simp only [Bool.and_eq_true, decide_eq_true_eq] at hf
              obtain ⟨⟨⟨l0, l1⟩, l2⟩, l3⟩ := hf
              obtain ⟨ys', hy⟩ := Option.isSome_iff_exists.mp l0
              have e : ys' = ys := by
                have h2 : M.seq? m2 = some ys := hs
                cases m2 with
                | val d' =>
                  cases d' with
                  | tup xs => cases hy
                  | lst xs => cases hy; cases h2; rfl
                  | scr xs => cases hy; cases h2; rfl
                  | _ => cases hy
                | ol xs => cases hy; cases h2; rfl
                | od t kvs => cases hy
              subst e
              refine .deep (toPy d) (toPys ys') (dp_of S r1 l1) (lst_toPy hy r2 l2) (by
                unfold SeqAt.shaped
                rw [Bool.and_eq_true]
                exact ⟨l1, decide_eq_true (by unfold D.deep at l3; omega)⟩) (by simpa [D.lay, toPy] using l2) ?_
              rw [toPys_map, List.any_map]
              rfl
            · cases h
        · cases h
  · cases h
section
variable {X : Cx}
theorem v_in (hK : X.K = c.K) (hu : X.A.units + 65 < cLine) : OpR X (compareOp .In) (R2b c (cmp .isin)) := by
  intro pins s σ H x y v u Q I rx ry h
  obtain ⟨S, st, m1, m2, b, rfl, R, r1, r2, hm, q⟩ := h
  rcases isIn_how (show isIn m1 m2 = some b from hm) r1 r2 with ⟨n, z, rfl, rfl, rfl⟩ | ⟨p, t, kvs, vs, k, rfl, h1, h2, hk, rk, rfl⟩ | ⟨p, vs, rfl, h1, h2, h3, rfl⟩ | ⟨d, ds, h1, h2, h3, h4, rfl⟩
  · exact op_in_sign pins s σ S.H _ _ v u Q I rx ry ⟨n, z, rfl, rfl, q⟩
  · obtain ⟨o, g, g1, g2⟩ := dget_ok I h1 h2 hk rk
    have e : o.isSome = (dget kvs k).isSome := by
      cases w : dget kvs k with
      | none => rw [g2 w]; rfl
      | some d =>
        obtain ⟨v', e, _⟩ := g1 d w
        rw [e]; rfl
    cases ry
    exact d_in (by omega) I g rx fun s' I' => ⟨.bl _, S.H, I', by rw [e]; rfl, q⟩
  · exact op_in_seq pins s σ S.H _ _ v u Q I rx ry ⟨p, vs, rfl, by rw [hK]; exact h1, h2, h3, q⟩
  · rw [← hK] at h1 h2
    obtain ⟨as, r1⟩ := Dp.reads I d x v h1 rx
    obtain ⟨bs, r2⟩ := Dp.reads I (.list ds) y u h2 ry
    exact SeqAt.in_list_reads r2 r1 h4 (SeqAt.canLay_of_shaped h3) (room_in_shaped h3 hu) ⟨.bl _, S.H, I, rfl, q⟩
theorem v_nin (hK : X.K = c.K) (hu : X.A.units + 65 < cLine) : OpR X (compareOp .NotIn) (R2b c (cmp .nin)) := by
  intro pins s σ H x y v u Q I rx ry h
  obtain ⟨S, st, m1, m2, b, rfl, R, r1, r2, hm, q⟩ := h
  have hm : (isIn m1 m2).map (fun c => !c) = some b := hm
  cases e : isIn m1 m2 with
  | none => rw [e] at hm; cases hm
  | some b' =>
    rw [e] at hm
    cases hm
    rcases isIn_how e r1 r2 with ⟨n, z, rfl, rfl, rfl⟩ | ⟨p, t, kvs, vs, k, rfl, h1, h2, hk, rk, rfl⟩ | ⟨p, vs, rfl, h1, h2, h3, rfl⟩ | ⟨d, ds, h1, h2, h3, h4, rfl⟩
    · exact op_notIn_sign pins s σ S.H _ _ v u Q I rx ry ⟨n, z, rfl, rfl, q⟩
    · obtain ⟨o, g, g1, g2⟩ := dget_ok I h1 h2 hk rk
      have e : o.isSome = (dget kvs k).isSome := by
        cases w : dget kvs k with
        | none => rw [g2 w]; rfl
        | some d =>
          obtain ⟨v', e, _⟩ := g1 d w
          rw [e]; rfl
      cases ry
      exact d_notIn (by omega) I g rx fun s' I' => ⟨.bl _, S.H, I', by rw [e]; rfl, q⟩
    · exact op_notIn_seq pins s σ S.H _ _ v u Q I rx ry ⟨p, vs, rfl, by rw [hK]; exact h1, h2, h3, q⟩
    · rw [← hK] at h1 h2
      obtain ⟨as, r1⟩ := Dp.reads I d x v h1 rx
      obtain ⟨bs, r2⟩ := Dp.reads I (.list ds) y u h2 ry
      exact SeqAt.notIn_list_reads r2 r1 h4 (SeqAt.canLay_of_shaped h3) (room_in_shaped h3 hu) ⟨.bl _, S.H, I, rfl, q⟩

/-! ### a[i] -/
/-- by values: the answer is data that stands already -/
def R2d (c : Cn) (k : M → M → Option D) : R2 := fun x y H Q => ∃ S s m1 m2 d, S.H = H ∧ RlS c S s ∧ RepV c S m1 x ∧ RepV c S m2 y ∧ k m1 m2 = some d ∧ ∀ v, RepD c S d v → Q v H
theorem atI_rep {ds : List D} {vs : List V} {i : Int} {d : D} (r : RepDs c S ds vs) (h : L2.atI ds i = some d) : ∃ v, L2.atI vs i = some v ∧ RepD c S d v := by
  unfold L2.atI at h ⊢
  rw [r.length]
  cases e : L2.ixN ds.length i with
  | none => rw [e] at h; cases h
  | some j =>
    rw [e] at h
    obtain ⟨v, h1, h2⟩ := r.get (show ds[j]? = some d from h)
    exact ⟨v, h1, h2⟩
theorem v_index (hK : X.K = c.K) (hu : X.A.units + 65 < cLine) : IxR X (R2d c index) := by
  intro value slice pins s σ H x y v u Q I rx ry h hs
  obtain ⟨S, st, m1, m2, d, rfl, R, r1, r2, hm, q⟩ := h
  unfold index at hm
  split at hm
  · split at hm
    · rename_i z i hl
      unfold strAt at hm
      cases e : L2.atI z.cps.toList i with
      | none => rw [e] at hm; cases hm
      | some n =>
        rw [e] at hm
        cases hm
        cases r1
        cases r2
        exact ix_str value slice pins s σ S.H _ _ v u Q I rx ry ⟨z, i, n, rfl, rfl, lim_le hl, e, q _ rfl⟩ hs
    · cases hm
  · rename_i k _ _
    split at hm
    · rename_i xs e
      split at hm
      · rename_i i
        obtain ⟨p, vs, rfl, h1, h2⟩ := seq_of e r1
        cases r2
        obtain ⟨w, g1, g2⟩ := atI_rep h2 hm
        rcases h1 with h1 | h1
        · exact ix_list value slice pins s σ S.H _ _ v u Q I rx ry ⟨p, vs, _, w, rfl, rfl, by rw [hK]; exact h1, g1, q w g2⟩ hs
        · exact ix_tup value slice pins s σ S.H _ _ v u Q I rx ry ⟨p, vs, _, w, rfl, rfl, by rw [hK]; exact h1, g1, q w g2⟩ hs
      · cases hm
    · split at hm
      · rename_i t kvs e
        split at hm
        · rename_i hk
          obtain ⟨p, vs, rfl, h1, h2⟩ := dic_of e r1
          obtain ⟨o, g, g1, _⟩ := dget_ok I h1 h2 hk r2
          obtain ⟨w, rfl, g2⟩ := g1 d hm
          cases rx
          exact tail_any (dict_typeIs I g) PySem.F.slot_dict_getitem.lookup (d_getItem (by omega) I g ry fun w' s' I' r' => ⟨w, S.H, I', r', q w g2⟩) hs
        · cases hm
      · cases hm
  · cases hm
end
end OI

/-! OIg: built-in functions and methods by values. -/
namespace OI
open PySem PySem.Spec PyProof.Rows L2
variable {c : Cn} {S : Wd} {s : Store}

def R1c (c : Cn) (k : M → Option M) : List V → Hp → VK → Prop := fun xs H Q => ∃ S s m1 x m, xs = [x] ∧ S.H = H ∧ RlS c S s ∧ RepV c S m1 x ∧ k m1 = some m ∧ ∀ S' v, Al S S' → RepM c S' .tmp m v → Q v S'.H
def R2c (c : Cn) (k : M → M → Option M) : List V → Hp → VK → Prop := fun xs H Q => ∃ S s m1 m2 x y m, xs = [x, y] ∧ S.H = H ∧ RlS c S s ∧ RepV c S m1 x ∧ RepV c S m2 y ∧ k m1 m2 = some m ∧ ∀ S' v, Al S S' → RepM c S' .tmp m v → Q v S'.H
def R3c (c : Cn) (k : M → M → M → Option M) : List V → Hp → VK → Prop := fun xs H Q => ∃ S s m1 m2 m3 x y z m, xs = [x, y, z] ∧ S.H = H ∧ RlS c S s ∧ RepV c S m1 x ∧ RepV c S m2 y ∧ RepV c S m3 z ∧ k m1 m2 m3 = some m ∧ ∀ S' v, Al S S' → RepM c S' .tmp m v → Q v S'.H

theorem ints_of : ∀ {ds : List D} {vs : List V} {ns : List Int}, ints? ds = some ns → RepDs c S ds vs → vs = ns.map V.int
  | [], _, _, h, r => by cases h; exact r
  | d :: ds, _, ns, h, ⟨v, r, e, h1, h2⟩ => by
    subst e
    cases d with
    | int i =>
      unfold ints? at h
      cases w : ints? ds with
      | none => rw [w] at h; cases h
      | some ms =>
        rw [w] at h
        cases h
        rw [ints_of w h2, show v = V.int i from h1]
        rfl
    | _ => cases h
theorem strs_of : ∀ {ds : List D} {vs : List V} {ns : List Str}, strs? ds = some ns → RepDs c S ds vs → vs = ns.map V.str
  | [], _, _, h, r => by cases h; exact r
  | d :: ds, _, ns, h, ⟨v, r, e, h1, h2⟩ => by
    subst e
    cases d with
    | str i =>
      unfold strs? at h
      cases w : strs? ds with
      | none => rw [w] at h; cases h
      | some ms =>
        rw [w] at h
        cases h
        rw [strs_of w h2, show v = V.str i from h1]
        rfl
    | _ => cases h
theorem lints_of {m : M} {v : V} {ns : List Int} (h : m.lst?.bind ints? = some ns) (r : RepV c S m v) : ∃ p, v = .ref p ∧ SqL c.K S.H p (ns.map V.int) := by
  cases e : m.lst? with
  | none => rw [e] at h; cases h
  | some ds =>
    rw [e] at h
    obtain ⟨p, vs, e1, h1, h2⟩ := lst_of e r
    rw [ints_of h h2] at h1
    exact ⟨p, e1, h1⟩
theorem sints_of {m : M} {v : V} {ns : List Int} (h : m.seq?.bind ints? = some ns) (r : RepV c S m v) : ∃ p, v = .ref p ∧ (SqL c.K S.H p (ns.map V.int) ∨ SqT c.K S.H p (ns.map V.int)) := by
  cases e : m.seq? with
  | none => rw [e] at h; cases h
  | some ds =>
    rw [e] at h
    obtain ⟨p, vs, e1, h1, h2⟩ := seq_of e r
    rw [ints_of h h2] at h1
    exact ⟨p, e1, h1⟩
theorem maxI_mem : ∀ (n : Int) (ns : List Int), maxI (n :: ns) ∈ n :: ns ∧ ∀ a ∈ n :: ns, a ≤ maxI (n :: ns)
  | n, [] => ⟨by simp [maxI], fun a h => by simp at h; simp [maxI, h]⟩
  | n, m :: ns => by
    obtain ⟨h1, h2⟩ := maxI_mem m ns
    have e : maxI (n :: m :: ns) = max n (maxI (m :: ns)) := rfl
    rw [e]
    refine ⟨?_, fun a h => ?_⟩
    · rcases Int.le_total n (maxI (m :: ns)) with l | l
      · rw [Int.max_eq_right l]; exact List.mem_cons_of_mem _ h1
      · rw [Int.max_eq_left l]; exact List.mem_cons_self
    · rcases List.mem_cons.mp h with q | q
      · rw [q]; omega
      · have := h2 a q
        omega
theorem minI_mem : ∀ (n : Int) (ns : List Int), minI (n :: ns) ∈ n :: ns ∧ ∀ a ∈ n :: ns, minI (n :: ns) ≤ a
  | n, [] => ⟨by simp [minI], fun a h => by simp at h; simp [minI, h]⟩
  | n, m :: ns => by
    obtain ⟨h1, h2⟩ := minI_mem m ns
    have e : minI (n :: m :: ns) = min n (minI (m :: ns)) := rfl
    rw [e]
    refine ⟨?_, fun a h => ?_⟩
    · rcases Int.le_total n (minI (m :: ns)) with l | l
      · rw [Int.min_eq_left l]; exact List.mem_cons_self
      · rw [Int.min_eq_right l]; exact List.mem_cons_of_mem _ h1
    · rcases List.mem_cons.mp h with q | q
      · rw [q]; omega
      · have := h2 a q
        omega
theorem insI_perm (a : Int) : ∀ l : List Int, (insI a l).Perm (a :: l)
  | [] => .refl _
  | b :: r => by
    unfold insI
    split
    · exact .refl _
    · exact ((insI_perm a r).cons b).trans (.swap a b r)
theorem sortI_perm : ∀ l : List Int, (sortI l).Perm l
  | [] => .refl _
  | a :: r => (insI_perm a (sortI r)).trans ((sortI_perm r).cons a)
theorem insI_pw (a : Int) : ∀ {l : List Int}, l.Pairwise (· ≤ ·) → (insI a l).Pairwise (· ≤ ·)
  | [], _ => List.pairwise_singleton _ _
  | b :: r, h => by
    unfold insI
    have h' := List.pairwise_cons.mp h
    split
    · rename_i hab
      exact List.pairwise_cons.mpr ⟨fun x hx => by
        rcases List.mem_cons.mp hx with q | q
        · rw [q]; exact hab
        · exact Int.le_trans hab (h'.1 x q), h⟩
    · rename_i hab
      refine List.pairwise_cons.mpr ⟨fun x hx => ?_, insI_pw a h'.2⟩
      rcases List.mem_cons.mp ((insI_perm a r).mem_iff.mp hx) with q | q
      · rw [q]; omega
      · exact h'.1 x q
theorem sortI_pw : ∀ l : List Int, (sortI l).Pairwise (· ≤ ·)
  | [] => .nil
  | a :: r => insI_pw a (sortI_pw r)
theorem sorted_one {l l' : List Int} (h : l.Perm l') (a : l.Pairwise (· ≤ ·)) (b : l'.Pairwise (· ≤ ·)) : l = l' :=
  h.eq_of_pairwise (le := fun x y => x ≤ y) (fun x y _ _ h1 h2 => Int.le_antisymm h1 h2) a b

section
variable {X : Cx}
theorem sum_tuple_raw {prog : Program} {w : World} {A : Around} {E : Value → Shared → Prop} {s : Shared} {l : Addr} {its : List Value} {ns : List Int} {Q : Value → Shared → Prop} (hh : A.handled = none) (hl : IsTup s.heap l its.toArray) (hi : IntsAre its ns)
    (h : ∀ h' tk t', (∀ b o, s.heap.get? b = some o → h'.get? b = some o) → Q (.int ns.sum t') { s with heap := h', toks := tk }) : wpAny (model prog w) A (call (.builtin "sum") [.ref l]) Q E s := by
  obtain ⟨xs, e⟩ := hi.allInts.items
  have hn : numsOf (intItems xs).toList = ns := by rw [← e]; exact hi.numsOf
  rw [nums_intItems] at hn
  rw [e] at hl
  have hT : s.heap.IsTuple l (intItems xs) := hl
  refine PySem.call_sum_walkG (wpAny_pyIter_tuple hT ?_)
  have hlt : l < s.heap.objs.size := hl.lt
  refine ⟨s.heap.objs.size, [s.heap.objs.size, l], [s.heap.objs.size], _, _, _, numAt xs, rfl, Walks.tuple (A := A.in1) hh _ l (Nat.ne_of_lt hlt) (intItems xs), ⟨⟨_, Heap.get?_push_size _ rfl, rfl, rfl⟩, hT.push _⟩, fun b hb => ?_, (fun _ _ => intItems_at), fun h' tk t' hk => ?_⟩
  · show b < (s.heap.push _).objs.size
    rw [Heap.size_push]
    rcases List.mem_cons.mp hb with rfl | hb
    · exact Nat.lt_succ_self _
    · rw [List.mem_singleton.mp hb]; exact Nat.lt_succ_of_lt hlt
  · have := h h' tk t' fun b o e => hk b o (fun hm => by rw [List.mem_singleton.mp hm] at e; exact Nat.lt_irrefl _ (Heap.lt_size e)) (Heap.get?_push_of_some _ e)
    have e2 : preSum (numAt xs) (intItems xs).size = ns.sum := by
      rw [preSum_eq, List.take_of_length_le (by simp [intItems]), hn]
    rw [e2]
    exact this

theorem b_len (hK : X.K = c.K) : CallR X (.builtin "len") (R1c c (bi1 "len")) := by
  intro pins s σ H xs us Q I rs h
  obtain ⟨S, st, m1, x, m, rfl, rfl, R, r1, hm, q⟩ := h
  unfold bi1 at hm
  simp only at hm
  split at hm
  · split at hm
    · rename_i z hl
      cases hm
      cases r1
      exact call_len_str pins s σ S.H _ us Q I rs ⟨z, rfl, lim_le hl, q S _ (Al.refl R) rfl⟩
    · cases hm
  · split at hm
    · rename_i ys e
      cases hm
      obtain ⟨p, vs, rfl, h1, h2⟩ := seq_of e r1
      refine call_len_seq pins s σ S.H _ us Q I rs ⟨p, vs, rfl, by rw [hK]; exact h1, ?_⟩
      rw [h2.length]
      exact q S _ (Al.refl R) rfl
    · cases hm
theorem b_sum (hK : X.K = c.K) (hc : X.calm = true) : CallR X (.builtin "sum") (R1c c (bi1 "sum")) := by
  intro pins s σ H xs us Q I rs h
  obtain ⟨S, st, m1, x, m, rfl, rfl, R, r1, hm, q⟩ := h
  unfold bi1 at hm
  simp only at hm
  split at hm
  · rename_i ns e
    cases hm
    obtain ⟨p, rfl, h1⟩ := sints_of e r1
    have fin := q S _ (Al.refl R) (show RepM c S .tmp (.val (.int ns.sum)) (.int ns.sum) from rfl)
    rcases h1 with h1 | h1
    · exact cr_sum hc pins s σ S.H _ us Q I rs ⟨p, ns, rfl, by rw [hK]; exact h1, fin⟩
    · rw [← hK] at h1
      obtain ⟨its, rv, ht, _⟩ := I.tuple h1
      rw [Vals.ref1 rs]
      exact sum_tuple_raw (I.ok.hd hc) ht rv.ints fun h' tk t' k => ⟨.int ns.sum, S.H, I.kept k, ⟨_, rfl⟩, fin⟩
  · cases hm
theorem b_max1 (hK : X.K = c.K) (hc : X.calm = true) : CallR X (.builtin "max") (R1c c (bi1 "max")) := by
  intro pins s σ H xs us Q I rs h
  obtain ⟨S, st, m1, x, m, rfl, rfl, R, r1, hm, q⟩ := h
  unfold bi1 at hm
  simp only at hm
  split at hm
  · rename_i n ns e
    cases hm
    obtain ⟨p, rfl, h1⟩ := lints_of e r1
    obtain ⟨g1, g2⟩ := maxI_mem n ns
    refine cr_max hc pins s σ S.H _ us Q I rs ⟨p, n :: ns, rfl, by rw [hK]; exact h1, by simp, fun k k1 k2 => ?_⟩
    have e : k = maxI (n :: ns) := Int.le_antisymm (g2 k k1) (k2 _ g1)
    rw [e]
    exact q S _ (Al.refl R) rfl
  · cases hm
theorem b_min1 (hK : X.K = c.K) (hc : X.calm = true) : CallR X (.builtin "min") (R1c c (bi1 "min")) := by
  intro pins s σ H xs us Q I rs h
  obtain ⟨S, st, m1, x, m, rfl, rfl, R, r1, hm, q⟩ := h
  unfold bi1 at hm
  simp only at hm
  split at hm
  · rename_i n ns e
    cases hm
    obtain ⟨p, rfl, h1⟩ := lints_of e r1
    obtain ⟨g1, g2⟩ := minI_mem n ns
    refine cr_min hc pins s σ S.H _ us Q I rs ⟨p, n :: ns, rfl, by rw [hK]; exact h1, by simp, fun k k1 k2 => ?_⟩
    have e : k = minI (n :: ns) := Int.le_antisymm (k2 _ g1) (g2 k k1)
    rw [e]
    exact q S _ (Al.refl R) rfl
  · cases hm
theorem b_sorted (hK : X.K = c.K) : CallR X (.builtin "sorted") (R1c c (bi1 "sorted")) := by
  intro pins s σ H xs us Q I rs h
  obtain ⟨S, st, m1, x, m, rfl, rfl, R, r1, hm, q⟩ := h
  unfold bi1 at hm
  simp only at hm
  split at hm
  · rename_i ns e
    cases hm
    obtain ⟨p, rfl, h1⟩ := lints_of e r1
    refine cr_sortedI pins s σ S.H _ us Q I rs ⟨p, ns, rfl, by rw [hK]; exact h1, fun ns' a k1 k2 na => ?_⟩
    have e : ns' = sortI ns := sorted_one (k1.trans (sortI_perm ns).symm) k2 (sortI_pw ns)
    subst e
    have hlen := len_le I hK (.inl h1)
    obtain ⟨S', al, hH, rp⟩ := new_lst R na (RepDs.ints (sortI ns)) (by rw [List.length_map, (sortI_perm ns).length_eq]; rw [List.length_map] at hlen; exact hlen)
    have := q S' _ al rp
    rw [hH] at this
    exact this
  · cases hm
theorem b_list (hK : X.K = c.K) : CallR X (.type "list") (R1c c (bi1 "list")) := by
  intro pins s σ H xs us Q I rs h
  obtain ⟨S, st, m1, x, m, rfl, rfl, R, r1, hm, q⟩ := h
  unfold bi1 at hm
  simp only at hm
  split at hm
  · rename_i ys e
    cases hm
    obtain ⟨p, vs, rfl, h1, h2⟩ := seq_of e r1
    refine call_list_of pins s σ S.H _ us Q I rs ⟨p, vs, rfl, by rw [hK]; exact h1, fun a na => ?_⟩
    obtain ⟨S', al, hH, rp⟩ := new_lst R na h2 (len_le I hK h1)
    have := q S' _ al rp
    rw [hH] at this
    exact this
  · cases hm
theorem b_tuple (hK : X.K = c.K) : CallR X (.type "tuple") (R1c c (bi1 "tuple")) := by
  intro pins s σ H xs us Q I rs h
  obtain ⟨S, st, m1, x, m, rfl, rfl, R, r1, hm, q⟩ := h
  unfold bi1 at hm
  simp only at hm
  split at hm
  · rename_i ys e
    cases hm
    have other : ∀ p vs, x = V.ref p → SqL c.K S.H p vs → RepDs c S ys vs → wpAny (model X.prog X.w) X.A (call (.type "tuple") us) (EP X pins σ Q) X.xe s := fun p vs ex h1 h2 => by
      subst ex
      refine call_tuple_of pins s σ S.H _ us Q I rs ⟨p, vs, rfl, .inl ⟨by rw [hK]; exact h1, fun a na => ?_⟩⟩
      obtain ⟨S', al, hH, rp⟩ := new_tup R na h2 (len_le I hK (.inl h1))
      have := q S' _ al rp
      rw [hH] at this
      exact this
    cases m1 with
    | val d =>
      cases d with
      | tup zs =>
        cases e
        obtain ⟨p, vs, rfl, h1, h2⟩ := r1
        exact call_tuple_of pins s σ S.H _ us Q I rs ⟨p, vs, rfl, .inr ⟨by rw [hK]; exact h1.sq, q S _ (Al.refl R) ⟨p, vs, rfl, h1, h2⟩⟩⟩
      | lst zs =>
        obtain ⟨p, vs, rfl, h1, h2⟩ := lst_of (show M.lst? (.val (.lst zs)) = some ys from e) r1
        exact other p vs rfl h1 h2
      | scr zs =>
        obtain ⟨p, vs, rfl, h1, h2⟩ := lst_of (show M.lst? (.val (.scr zs)) = some ys from e) r1
        exact other p vs rfl h1 h2
      | _ => cases e
    | ol zs =>
      obtain ⟨p, vs, rfl, h1, h2⟩ := lst_of (show M.lst? (.ol zs) = some ys from e) r1
      exact other p vs rfl h1 h2
    | od t kvs => cases e
  · cases hm
theorem b_int : CallR X (.type "int") (R1c c (bi1 "int")) := by
  intro pins s σ H xs us Q I rs h
  obtain ⟨S, st, m1, x, m, rfl, rfl, R, r1, hm, q⟩ := h
  unfold bi1 at hm
  simp only at hm
  split at hm
  · cases hm
    cases r1
    exact call_int1 pins s σ S.H _ us Q I rs (.inl ⟨_, rfl, q S _ (Al.refl R) rfl⟩)
  · cases hm
    cases r1
    exact call_int1 pins s σ S.H _ us Q I rs (.inr ⟨_, rfl, q S _ (Al.refl R) rfl⟩)
  · split at hm
    · rename_i z hl
      cases e : PySem.intText? z with
      | none => rw [e] at hm; cases hm
      | some n =>
        rw [e] at hm
        cases hm
        cases r1
        exact call_int_str pins s σ S.H _ us Q I rs ⟨z, n, rfl, e, hl, q S _ (Al.refl R) rfl⟩
    · cases hm
  · cases hm
theorem b_str : CallR X (.type "str") (R1c c (bi1 "str")) := by
  intro pins s σ H xs us Q I rs h
  obtain ⟨S, st, m1, x, m, rfl, rfl, R, r1, hm, q⟩ := h
  unfold bi1 at hm
  simp only at hm
  split at hm
  · split at hm
    · rename_i i hl
      cases hm
      cases r1
      exact call_str_int pins s σ S.H _ us Q I rs ⟨i, rfl, hl, q S _ (Al.refl R) rfl⟩
    · cases hm
  · cases hm
theorem b_max2 (hc : X.calm = true) : CallR X (.builtin "max") (R2c c (bi2 "max")) := by
  intro pins s σ H xs us Q I rs h
  obtain ⟨S, st, m1, m2, x, y, m, rfl, rfl, R, r1, r2, hm, q⟩ := h
  unfold bi2 at hm
  simp only at hm
  split at hm
  · rename_i i j
    cases hm
    cases r1
    cases r2
    refine call_max2 hc pins s σ S.H _ us Q I rs ⟨_, _, rfl, ?_⟩
    have := q S _ (Al.refl R) (show RepM c S .tmp (.val (.int (max i j))) (.int (max i j)) from rfl)
    rw [show (if j > i then j else i) = max i j by split <;> omega]
    exact this
  · cases hm
theorem b_min2 (hc : X.calm = true) : CallR X (.builtin "min") (R2c c (bi2 "min")) := by
  intro pins s σ H xs us Q I rs h
  obtain ⟨S, st, m1, m2, x, y, m, rfl, rfl, R, r1, r2, hm, q⟩ := h
  unfold bi2 at hm
  simp only at hm
  split at hm
  · rename_i i j
    cases hm
    cases r1
    cases r2
    refine call_min2 hc pins s σ S.H _ us Q I rs ⟨_, _, rfl, ?_⟩
    have := q S _ (Al.refl R) (show RepM c S .tmp (.val (.int (min i j))) (.int (min i j)) from rfl)
    rw [show (if j < i then j else i) = min i j by split <;> omega]
    exact this
  · cases hm
theorem b_max3 (hc : X.calm = true) : CallR X (.builtin "max") (R3c c (bi3 "max")) := by
  intro pins s σ H xs us Q I rs h
  obtain ⟨S, st, m1, m2, m3, x, y, z, m, rfl, rfl, R, r1, r2, r3, hm, q⟩ := h
  unfold bi3 at hm
  simp only at hm
  split at hm
  · rename_i i j k
    cases hm
    cases r1
    cases r2
    cases r3
    have fin := q S _ (Al.refl R) (show RepM c S .tmp (.val (.int (max (max i j) k))) (.int (max (max i j) k)) from rfl)
    cases rs with
    | cons ra rs =>
      cases rs with
      | cons rb rs =>
        cases rs with
        | cons rc rs =>
          cases rs
          obtain ⟨t1, rfl⟩ := ra
          obtain ⟨t2, rfl⟩ := rb
          obtain ⟨t3, rfl⟩ := rc
          refine PySem.max_three_ints (I.ok.hd hc) fun h' tk hk => ⟨.int (max (max i j) k), S.H, I.kept hk, ?_, fin⟩
          show ∃ t, _ = Value.int (max (max i j) k) t
          by_cases h1 : j > i
          · rw [if_pos h1]
            by_cases h2 : k > j
            · rw [if_pos h2]; exact ⟨t3, by rw [show max (max i j) k = k by omega]⟩
            · rw [if_neg h2]; exact ⟨t2, by rw [show max (max i j) k = j by omega]⟩
          · rw [if_neg h1]
            by_cases h2 : k > i
            · rw [if_pos h2]; exact ⟨t3, by rw [show max (max i j) k = k by omega]⟩
            · rw [if_neg h2]; exact ⟨t1, by rw [show max (max i j) k = i by omega]⟩
  · cases hm
end
end OI

/-! OIh: dict(d), methods of built-in things, slices. -/
namespace OI
open PySem PySem.Spec PyProof.Rows L2
variable {c : Cn} {S : Wd} {s : Store}
def R1m (c : Cn) (k : M → M → Option M) : V → List V → Hp → VK → Prop := fun x xs H Q => ∃ S s m1 m2 y m, xs = [y] ∧ S.H = H ∧ RlS c S s ∧ RepV c S m1 x ∧ RepV c S m2 y ∧ k m1 m2 = some m ∧ ∀ S' v, Al S S' → RepM c S' .tmp m v → Q v S'.H
section
variable {X : Cx}
theorem RepKs.len2 {t : Bool} {kvs : List (D × D)} {vs : List V} (h : RepKs c S t kvs vs) : (kpairs kvs vs).length = kvs.length := by
  simp [kpairs, h.length]
theorem hl_dK (R : RlS c S s) {p : Addr} {kvs : List (D × D)} {vs : List V} (h : S.H p = some (dHO c p false (kvs.map (·.1)) vs)) : (kpairs kvs vs).length ≤ 16777216 := (R.hl p).2.2 _ h
theorem HLo.dK {kvs : List (Key × V)} (h : kvs.length ≤ 16777216) : HLo (.dK kvs) := ⟨fun _ e => (by cases e), fun _ e => (by cases e), fun _ e => (by cases e; exact h), fun _ _ e => (by cases e)⟩
theorem b_dict : CallR X (.type "dict") (R1c c (bi1 "dict")) := by
  intro pins s σ H xs us Q I rs h
  obtain ⟨S, st, m1, x, m, rfl, rfl, R, r1, hm, q⟩ := h
  unfold bi1 at hm
  simp only at hm
  split at hm
  · rename_i kvs e
    cases hm
    obtain ⟨p, vs, rfl, h1, h2⟩ := dic_of e r1
    rw [Vals.ref1 rs]
    refine d_copyOf I (.inl h1) fun a s' na I' => ?_
    have al := Al.lay R (q := some .tmp) na (.inr rfl) (HLo.dK (hl_dK R h1))
    exact ⟨.ref a, _, I', rfl, q _ _ al ⟨a, vs, rfl, put_H, put_ow, h2.mono al.fr⟩⟩
  · cases hm

/-! ### methods -/
theorem findIx_flat {d : D} {v : V} (hd : d.flat = true) (rd : RepD c S d v) : ∀ {ds : List D} {vs : List V} {i j : Nat}, ds.all D.flat = true → RepDs c S ds vs → findIx d ds i = some j →
    i ≤ j ∧ ∃ z, vs[j - i]? = some z ∧ eqV z v = true ∧ ∀ m z', m < j - i → vs[m]? = some z' → eqV z' v = false
  | [], _, _, _, _, _, h => by cases h
  | e :: ds, _, i, j, hf, ⟨w, r, q, h1, h2⟩, h => by
    subst q
    rw [List.all_cons, Bool.and_eq_true] at hf
    have hq := flat_eqv hf.1 hd h1 rd
    unfold findIx at h
    split at h
    · rename_i he
      cases h
      refine ⟨Nat.le_refl _, w, ?_, hq.trans he, fun m z' hm => ?_⟩
      · rw [Nat.sub_self]; rfl
      · rw [Nat.sub_self] at hm; exact absurd hm (Nat.not_lt_zero _)
    · rename_i he
      obtain ⟨l, z, g1, g2, g3⟩ := findIx_flat hd rd hf.2 h2 h
      refine ⟨by omega, z, ?_, g2, fun m z' hm hz => ?_⟩
      · rw [show j - i = (j - (i + 1)) + 1 by omega]
        simpa using g1
      · cases m with
        | zero =>
          cases hz
          rw [hq]
          simpa using he
        | succ m =>
          exact g3 m z' (by omega) (by simpa using hz)
theorem m_index (hK : X.K = c.K) : MtR X "list.index" (R1m c (bm1 "index")) := by
  intro pins s σ H x xs v us Q I rx rs h
  obtain ⟨S, st, m1, m2, y, m, rfl, rfl, R, r1, r2, hm, q⟩ := h
  unfold bm1 at hm
  simp only at hm
  split at hm
  · rename_i ys d e
    split at hm
    · rename_i hf
      rw [Bool.and_eq_true] at hf
      cases w : findIx d ys 0 with
      | none => rw [w] at hm; cases hm
      | some j =>
        rw [w] at hm
        cases hm
        obtain ⟨p, vs, rfl, h1, h2⟩ := lst_of e r1
        obtain ⟨_, z, g1, g2, g3⟩ := findIx_flat hf.1 r2 hf.2 h2 w
        exact mt_index pins s σ S.H _ _ v us Q I rx rs ⟨p, vs, y, j, z, rfl, rfl, by rw [hK]; exact h1, flat_V hf.1 r2, flats_V hf.2 h2, g1, g2, g3, q S _ (Al.refl R) rfl⟩
    · cases hm
  · cases hm
/-- a list of bools as data -/
theorem bools_at {its : List Value} : ∀ {ds : List D} {vs : List V} {us : List Value}, ds.all (fun y => match y with | .bl _ => true | _ => false) = true → RepDs c S ds vs → Vals vs us →
    ∃ bs : List Bool, ds = bs.map .bl ∧ us = bs.map Value.bool
  | [], _, _, _, h, r => by
    rw [show _ = [] from h] at r
    cases r
    exact ⟨[], rfl, rfl⟩
  | d :: ds, _, _, hf, ⟨w, r, q, h1, h2⟩, rv => by
    subst q
    rw [List.all_cons, Bool.and_eq_true] at hf
    cases rv with
    | cons ra rb =>
      obtain ⟨bs, e1, e2⟩ := bools_at (its := its) hf.2 h2 rb
      cases d with
      | bl b =>
        cases h1
        cases ra
        exact ⟨b :: bs, by rw [e1]; rfl, by rw [e2]; rfl⟩
      | _ => cases hf.1
theorem countP_bl (b : Bool) : ∀ bs : List Bool, (bs.map Value.bool).countP (isBoolOf b) = (bs.map D.bl).countP fun y => decide (y = .bl b)
  | [] => rfl
  | a :: bs => by
    rw [List.map_cons, List.map_cons, List.countP_cons, List.countP_cons, countP_bl b bs]
    congr 1
    cases a <;> cases b <;> rfl
theorem m_count (hK : X.K = c.K) : MtR X "list.count" (R1m c (bm1 "count")) := by
  intro pins s σ H x xs v us Q I rx rs h
  obtain ⟨S, st, m1, m2, y, m, rfl, rfl, R, r1, r2, hm, q⟩ := h
  unfold bm1 at hm
  simp only at hm
  split at hm
  · rename_i ys b e
    split at hm
    · rename_i hf
      cases hm
      obtain ⟨p, vs, rfl, h1, h2⟩ := lst_of e r1
      cases r2
      rw [← hK] at h1
      obtain ⟨its, rv, ⟨⟨cls, dd, data, sls⟩, n, ho, hc, hdn, hdt⟩, hlen⟩ := I.list h1
      simp only at hc hdt
      subst hc hdt
      obtain ⟨bs, rfl, rfl⟩ := bools_at (its := its) hf h2 rv
      cases rx
      cases rs with
      | cons ra rb =>
        cases rb
        cases ra
        have hq := q S _ (Al.refl R) (show RepM c S .tmp (.val (.int (((bs.map D.bl).countP fun y => decide (y = .bl b) : Nat) : Int))) (.int (((bs.map D.bl).countP fun y => decide (y = .bl b) : Nat) : Int)) from rfl)
        refine call_meets PySem.F.slot_list_count ⟨_, ho, rfl⟩ PySem.F.entry_list_count (PySem.F.args_list_count_2 _ _) (SeqAt.list_countAt p (bs.map Value.bool).toArray n dd sls (.bool b) (isBoolOf b)) ⟨ho, fun z hz => ?_, ?_⟩
        · obtain ⟨a, _, rfl⟩ := List.mem_map.mp (show z ∈ bs.map Value.bool by simpa using hz)
          exact SeqAt.EqAt.bool_bool a b
        · refine ⟨.int _, S.H, I.tok _, ⟨_, rfl⟩, ?_⟩
          rw [show ((bs.map Value.bool).toArray.toList) = bs.map Value.bool from rfl, countP_bl]
          exact hq
    · cases hm
  · cases hm
theorem m_join (hK : X.K = c.K) : MtR X "str.join" (R1m c (bm1 "join")) := by
  intro pins s σ H x xs v us Q I rx rs h
  obtain ⟨S, st, m1, m2, y, m, rfl, rfl, R, r1, r2, hm, q⟩ := h
  unfold bm1 at hm
  simp only at hm
  split at hm
  · rename_i z ys e
    split at hm
    · rename_i hl
      cases hm
      cases r1
      cases w : m2.lst? with
      | none => rw [w] at e; cases e
      | some ds =>
        rw [w] at e
        obtain ⟨p, vs, rfl, h1, h2⟩ := lst_of w r2
        have ev := strs_of (show strs? ds = some ys from e) h2
        subst ev
        exact mt_join pins s σ S.H _ _ v us Q I rx rs ⟨z, p, ys, rfl, rfl, .inl (by rw [hK]; exact h1), hl, q S _ (Al.refl R) rfl⟩
    · cases hm
  · cases hm
theorem m_split : MtR X "str.split" (R1m c (bm1 "split")) := by
  intro pins s σ H x xs v us Q I rx rs h
  obtain ⟨S, st, m1, m2, y, m, rfl, rfl, R, r1, r2, hm, q⟩ := h
  unfold bm1 at hm
  simp only at hm
  split at hm
  · rename_i z w
    split at hm
    · rename_i hl
      cases hm
      cases r1
      cases r2
      refine mt_split pins s σ S.H _ _ v us Q I rx rs ⟨z, w, rfl, rfl, by simpa using hl.1, lim_le hl.2, fun p np => ?_⟩
      have hz : (PySem.Txt.split z w).length ≤ 16777216 := Nat.le_trans (PyProof.Rows.split_le z w) hl.2
      obtain ⟨S', al, hH, rp⟩ := new_lst R np (RepDs.strs (PySem.Txt.split z w)) (by rw [List.length_map]; exact hz)
      have := q S' _ al rp
      rw [hH] at this
      exact this
    · cases hm
  · cases hm

/-! ### slices -/
def Rsl (c : Cn) : V → Option Int → Option Int → Hp → VK → Prop := fun x lo hi H Q => ∃ S s m1 m, S.H = H ∧ RlS c S s ∧ RepV c S m1 x ∧ slice m1 lo hi = some m ∧ ∀ S' v, Al S S' → RepM c S' .tmp m v → Q v S'.H
theorem cutD_rep {ds : List D} {vs : List V} (h : RepDs c S ds vs) (lo hi : Option Int) : RepDs c S (cutD ds lo hi) (cutV vs lo hi) := by
  unfold cutD cutV
  rw [h.length]
  exact (h.drop _).take _
theorem v_slice (hK : X.K = c.K) : SlR X (Rsl c) := by
  intro pins s σ H x v vl vu lo hi sl Q I rx hs pl pu h
  obtain ⟨S, st, m1, m, rfl, R, r1, hm, q⟩ := h
  unfold slice at hm
  split at hm
  · split at hm
    · rename_i z hl
      cases hm
      cases r1
      exact sl_str pins s σ S.H _ v vl vu lo hi sl Q I rx hs pl pu ⟨z, rfl, lim_le hl, q S _ (Al.refl R) rfl⟩
    · cases hm
  · rename_i xs
    cases hm
    obtain ⟨p, vs, rfl, h1, h2⟩ := r1
    refine sl_tupA pins s σ S.H _ v vl vu lo hi sl Q I rx hs pl pu ⟨p, vs, rfl, by rw [hK]; exact h1.sq, fun z => ?_, fun z a na => ?_⟩
    · refine q S _ (Al.refl R) ⟨p, vs, rfl, h1, ?_⟩
      have e : cutV vs lo hi = vs := by
        unfold cutV
        rw [z.1, z.2]
        simp
      have := cutD_rep h2 lo hi
      rw [e] at this
      exact this
    · obtain ⟨S', al, hH, rp⟩ := new_tup R na (cutD_rep h2 lo hi) (Nat.le_trans (cutV_length _ _ _) (len_le I hK (.inr h1.sq)))
      have := q S' _ al rp
      rw [hH] at this
      exact this
  · split at hm
    · rename_i xs e
      cases hm
      obtain ⟨p, vs, rfl, h1, h2⟩ := lst1_of e r1
      refine sl_list pins s σ S.H _ v vl vu lo hi sl Q I rx hs pl pu ⟨p, vs, rfl, SqL.of h1, fun a na => ?_⟩
      obtain ⟨S', al, hH, rp⟩ := new_lst R na (cutD_rep h2 lo hi) (Nat.le_trans (cutV_length _ _ _) (len_le I hK (.inl (SqL.of h1))))
      have := q S' _ al rp
      rw [hH] at this
      exact this
    · cases hm
end
end OI

/-! OIi: the lifts of expressions. -/
namespace OI
open PySem PySem.Spec PyProof.Rows L2

/-- nothing odd at the head -/
def plainE : Expr → Bool
  | .Set _ _ _ => false
  | .Starred _ _ => false
  | .Slice _ _ _ _ => false
  | .NamedExpr _ _ _ => false
  | .Call (.Name id _) [] [] _ => id != "super"
  | _ => true
theorem plain_marks {b : Expr} (h : plainE b = true) (op : CmpOp) : behindInMarks op b = false := by
  cases b <;> first | rfl | cases h
theorem plain_ix {b : Expr} (h : plainE b = true) : PlainIx b := by
  intro o i
  cases b <;> first | rfl | cases h
theorem plain_star {b : Expr} (h : plainE b = true) (r : List Expr) (env : PySem.Env) : starEach (b :: r) env = (false, eval b env) :: starEach r env := by
  cases b <;> first | rfl | cases h
theorem plain_fold {b : Expr} (h : plainE b = true) (env : PySem.Env) (x : Value) : foldedSetIterable b env x = pure x := by
  cases b <;> first | rfl | cases h
theorem plain_base {o : Expr} (h : plainE o = true) (f : Str) (env : PySem.Env) (w : Sem Value) : attributeBase o f env w = w := by
  unfold attributeBase
  split
  · rename_i id p pos
    have h' : (id != "super") = true := h
    rw [h', Bool.true_or, Bool.true_or, Bool.true_or]
    rfl
  · rfl

section
variable {X : Cx} {c : Cn} {W : WX} {R : Runs}
/-- both judgements of an expression -/
structure SE (X : Cx) (c : Cn) (W : WX) (a : Expr) (f : OI.Env → Store → Res (M × Pl)) : Prop where
  pe : PE X a (tE c W f)
  pt : PT X a (tT c W f)
  pw : ∀ op vs pos, a = .BoolOp op vs pos → PW X a (tT c W f)

/-- a test by its value -/
theorem pt_of_pe {a : Expr} {f : OI.Env → Store → Res (M × Pl)} (h : PE X a (tE c W f)) (he : ∀ whole, isTrue a X.env whole = (do let v ← whole; standAt a.pos; holding [v] (truthy v))) : PT X a (tT c W f) :=
  (pt_val h he).weak fun σ H Q q => by
    obtain ⟨S, e, s, rfl, Rr, p⟩ := q
    refine ⟨S, e, s, rfl, Rr, PostG.bind Rr.toRlS p fun x e1 s1 S1 v q1 R1 st1 rp1 p1 => ?_⟩
    unfold getB at p1
    split at p1
    · rename_i b hx
      have r := rp1.1
      rw [hx] at r
      exact ⟨b, r, p1 S1 b R1 (StE.refl S1 s1) rfl⟩
    · exact p1.elim
theorem one_ok {fa : OI.Env → Store → Res (M × Pl)} {k : M → OI.Env → Store → Res (M × Pl)} {σ : L2.St} {H : Hp} {Q : VK} {rest : V → Hp → Prop} (h : tE c W (one fa k) σ H Q)
    (hr : ∀ S e s m1 x, Rl c S e s σ → RepV c S m1 x → PostG c W σ S s (k m1 e s) (rM c σ) Q → rest x S.H) : tE c W fa σ H rest := by
  obtain ⟨S, e, s, rfl, Rr, p⟩ := h
  exact ⟨S, e, s, rfl, Rr, PostG.bind Rr.toRlS p fun x1 e1 s1 S1 v1 q1 R1 st1 rp1 p1 => hr S1 e1 s1 _ v1 R1 (bw_view R1.toRlS rp1.1) p1⟩
theorem testB_ok {fa : OI.Env → Store → Res (M × Pl)} {α β : Type} {k : Bool → OI.Env → Store → Res α} {rep : L2.St → Wd → Store → α → β → Prop} {σ : L2.St} {H : Hp} {Q : β → Hp → Prop} {rest : Bool → Hp → Prop} (h : tG c W (fun e s => (testB fa e s).bind k) rep σ H Q)
    (hr : ∀ S e s b, Rl c S e s σ → PostG c W σ S s (k b e s) (rep σ) Q → rest b S.H) : tT c W fa σ H rest := by
  obtain ⟨S, e, s, rfl, Rr, p⟩ := h
  refine ⟨S, e, s, rfl, Rr, PostG.bind Rr.toRlS p fun b e1 s1 S1 b' q1 R1 st1 rp1 p1 => ?_⟩
  cases rp1
  exact hr S1 e1 s1 b R1 p1
/-- a test's value: testB of what is a bool by itself -/
theorem testB_val {fa : OI.Env → Store → Res (M × Pl)} {σ : L2.St} {H : Hp} {Q : Bool → Hp → Prop} (h : tT c W fa σ H Q) : tE c W fa σ H fun x H1 => ∃ k, x = .bl k ∧ Q k H1 := by
  obtain ⟨S, e, s, rfl, Rr, p⟩ := h
  refine ⟨S, e, s, rfl, Rr, PostG.bind Rr.toRlS p fun x e1 s1 S1 v q1 R1 st1 rp1 p1 => ?_⟩
  unfold getB at p1
  split at p1
  · rename_i b hx
    have r := rp1.1
    rw [hx] at r
    exact ⟨b, r, p1 S1 b R1 (StE.refl S1 s1) rfl⟩
  · exact p1.elim

/-! ### simple ones -/
theorem s_neg {a : Expr} {ia : IE} {pos : Pos} (ha : PE X a (tE c W (ev R ia))) : PE X (.UnaryOp .USub a pos) (tE c W (ev R (.neg ia))) :=
  (pe_un un_neg ha).weak fun σ H Q q => one_ok q fun S e s m1 x Rr r1 p => by
    unfold negK at p
    split at p
    · exact ⟨_, r1, end_val Rr p rfl⟩
    · exact p.elim
theorem two_b {fa fb : OI.Env → Store → Res (M × Pl)} {k : M → M → Option Bool} {σ : L2.St} {H : Hp} {Q : VK} (h : tE c W (two fa fb fun x y => outB (k x y)) σ H Q) : tOp (R2b c k) (tE c W fa) (tE c W fb) σ H Q :=
  two_ok h fun S e s m1 m2 x y Rr r1 r2 p => by
    obtain ⟨b, hb, p⟩ := outB_ok p
    exact ⟨S, s, m1, m2, b, rfl, Rr.toRlS, r1, r2, hb, end_val Rr p rfl⟩
theorem s_cmp {op : COp} {o : CmpOp} {a b : Expr} {ia ib : IE} {pos : Pos} (ho : OpR X (compareOp o) (R2b c (cmp op))) (hb' : plainE b = true) (ha : PE X a (tE c W (ev R ia))) (hb : PE X b (tE c W (ev R ib))) : PE X (.Compare a [o] [b] pos) (tE c W (ev R (.cmp op ia ib))) :=
  (pe_cmpR ho ha hb (plain_marks hb' o)).weak fun σ H Q q => two_b q
theorem t_cmp {op : COp} {o : CmpOp} {a b : Expr} {ia ib : IE} {pos : Pos} (ho : OpR X (compareOp o) (R2b c (cmp op))) (hb' : plainE b = true) (ha : PE X a (tE c W (ev R ia))) (hb : PE X b (tE c W (ev R ib))) : PT X (.Compare a [o] [b] pos) (tT c W (ev R (.cmp op ia ib))) :=
  (pt_cmpR ho ha hb (plain_marks hb' o)).weak fun σ H Q q => two_b (testB_val q)
theorem isN_ok {n : Bool} {ia : IE} {σ : L2.St} {H : Hp} {Q : VK} (h : tE c W (ev R (.isN n ia)) σ H Q) : tE c W (ev R ia) σ H fun x H1 => Q (.bl (if n then !decide (x = .non) else decide (x = .non))) H1 := by
  obtain ⟨S, e, s, rfl, Rr, p⟩ := h
  refine ⟨S, e, s, rfl, Rr, PostG.bind Rr.toRlS p fun x1 e1 s1 S1 v1 q1 R1 st1 rp1 p1 => ?_⟩
  have key : decide ((bw x1.1 x1.2 s1).1 = .val .non) = decide (v1 = V.non) := by
    have r := bw_view R1.toRlS rp1.1
    generalize (bw x1.1 x1.2 s1).1 = m at r
    cases m with
    | val d =>
      cases d with
      | non => cases r; rfl
      | bl b => cases r; rfl
      | int b => cases r; rfl
      | str b => cases r; rfl
      | tup b => obtain ⟨p, vs, rfl, _⟩ := r; rfl
      | lst b => obtain ⟨p, vs, rfl, _⟩ := r; rfl
      | scr b => obtain ⟨p, rfl, _⟩ := r; rfl
      | dic t b => obtain ⟨p, vs, rfl, _⟩ := r; rfl
      | loc b => obtain ⟨p, rfl, _⟩ := r; rfl
      | exn b => obtain ⟨p, rfl, _⟩ := r; rfl
      | lam b b' => exact r.elim
    | ol b => obtain ⟨p, vs, rfl, _⟩ := r; rfl
    | od t b => obtain ⟨p, vs, rfl, _⟩ := r; rfl
  have := p1 S1 (.bl (if n then !decide ((bw x1.1 x1.2 s1).1 = .val .non) else decide ((bw x1.1 x1.2 s1).1 = .val .non))) R1 (StE.refl _ _) ⟨rfl, trivial⟩
  rw [key] at this
  exact this
theorem s_isN {ia : IE} {a : Expr} {j : Nat} {pos pos' : Pos} (ha : PE X a (tE c W (ev R ia))) : PE X (.Compare a [.Is] [.Constant .none j pos'] pos) (tE c W (ev R (.isN false ia))) :=
  (pe_cmpR op_isN ha pe_non rfl).weak fun σ H Q q => (isN_ok q : _) |> fun h => by
    obtain ⟨S, e, s, rfl, Rr, p⟩ := h
    exact ⟨S, e, s, rfl, Rr, p.mono fun y H h => ⟨rfl, h⟩⟩
theorem s_notN {ia : IE} {a : Expr} {j : Nat} {pos pos' : Pos} (ha : PE X a (tE c W (ev R ia))) : PE X (.Compare a [.IsNot] [.Constant .none j pos'] pos) (tE c W (ev R (.isN true ia))) :=
  (pe_cmpR op_notN ha pe_non rfl).weak fun σ H Q q => (isN_ok q : _) |> fun h => by
    obtain ⟨S, e, s, rfl, Rr, p⟩ := h
    exact ⟨S, e, s, rfl, Rr, p.mono fun y H h => ⟨rfl, h⟩⟩
theorem t_isN {ia : IE} {a : Expr} {j : Nat} {pos pos' : Pos} (ha : PE X a (tE c W (ev R ia))) : PT X (.Compare a [.Is] [.Constant .none j pos'] pos) (tT c W (ev R (.isN false ia))) :=
  (pt_cmpR op_isN ha pe_non rfl).weak fun σ H Q q => (isN_ok (testB_val q) : _) |> fun h => by
    obtain ⟨S, e, s, rfl, Rr, p⟩ := h
    exact ⟨S, e, s, rfl, Rr, p.mono fun y H h => ⟨rfl, h⟩⟩
theorem t_notN {ia : IE} {a : Expr} {j : Nat} {pos pos' : Pos} (ha : PE X a (tE c W (ev R ia))) : PT X (.Compare a [.IsNot] [.Constant .none j pos'] pos) (tT c W (ev R (.isN true ia))) :=
  (pt_cmpR op_notN ha pe_non rfl).weak fun σ H Q q => (isN_ok (testB_val q) : _) |> fun h => by
    obtain ⟨S, e, s, rfl, Rr, p⟩ := h
    exact ⟨S, e, s, rfl, Rr, p.mono fun y H h => ⟨rfl, h⟩⟩
theorem isB_ok {n b : Bool} {ia : IE} {σ : L2.St} {H : Hp} {Q : VK} (h : tE c W (ev R (.isB n ia b)) σ H Q) : tE c W (ev R ia) σ H fun x H1 => ∃ a, x = .bl a ∧ Q (.bl (if n then !decide (a = b) else decide (a = b))) H1 := by
  refine one_ok h fun S e s m1 x Rr r1 p => ?_
  unfold isBK at p
  split at p
  · rename_i a
    refine ⟨a, r1, ?_⟩
    have := end_val Rr p (show RepD c S (.bl (if n then !(a == b) else a == b)) (.bl (if n then !(a == b) else a == b)) from rfl)
    rw [show decide (a = b) = (a == b) by cases a <;> cases b <;> rfl]
    exact this
  · exact p.elim
theorem s_isB {ia : IE} {a : Expr} {b : Bool} {j : Nat} {pos pos' : Pos} (ha : PE X a (tE c W (ev R ia))) : PE X (.Compare a [.Is] [.Constant (.bool b) j pos'] pos) (tE c W (ev R (.isB false ia b))) :=
  (pe_cmpR op_isBl ha pe_bl rfl).weak fun σ H Q q => (isB_ok q : _) |> fun h => by
    obtain ⟨S, e, s, rfl, Rr, p⟩ := h
    exact ⟨S, e, s, rfl, Rr, p.mono fun y H ⟨a, e, h⟩ => ⟨a, b, e, rfl, h⟩⟩
theorem s_notB {ia : IE} {a : Expr} {b : Bool} {j : Nat} {pos pos' : Pos} (ha : PE X a (tE c W (ev R ia))) : PE X (.Compare a [.IsNot] [.Constant (.bool b) j pos'] pos) (tE c W (ev R (.isB true ia b))) :=
  (pe_cmpR op_notBl ha pe_bl rfl).weak fun σ H Q q => (isB_ok q : _) |> fun h => by
    obtain ⟨S, e, s, rfl, Rr, p⟩ := h
    exact ⟨S, e, s, rfl, Rr, p.mono fun y H ⟨a, e, h⟩ => ⟨a, b, e, rfl, h⟩⟩
theorem t_isB {ia : IE} {a : Expr} {b : Bool} {j : Nat} {pos pos' : Pos} (ha : PE X a (tE c W (ev R ia))) : PT X (.Compare a [.Is] [.Constant (.bool b) j pos'] pos) (tT c W (ev R (.isB false ia b))) :=
  (pt_cmpR op_isBl ha pe_bl rfl).weak fun σ H Q q => (isB_ok (testB_val q) : _) |> fun h => by
    obtain ⟨S, e, s, rfl, Rr, p⟩ := h
    exact ⟨S, e, s, rfl, Rr, p.mono fun y H ⟨a, e, h⟩ => ⟨a, b, e, rfl, h⟩⟩
theorem t_notB {ia : IE} {a : Expr} {b : Bool} {j : Nat} {pos pos' : Pos} (ha : PE X a (tE c W (ev R ia))) : PT X (.Compare a [.IsNot] [.Constant (.bool b) j pos'] pos) (tT c W (ev R (.isB true ia b))) :=
  (pt_cmpR op_notBl ha pe_bl rfl).weak fun σ H Q q => (isB_ok (testB_val q) : _) |> fun h => by
    obtain ⟨S, e, s, rfl, Rr, p⟩ := h
    exact ⟨S, e, s, rfl, Rr, p.mono fun y H ⟨a, e, h⟩ => ⟨a, b, e, rfl, h⟩⟩

/-! ### and, or, not, if -/
theorem both_ok {ia ib : IE} {σ : L2.St} {H : Hp} {Q : VK} (h : tE c W (ev R (.both ia ib)) σ H Q) : tT c W (ev R ia) σ H fun k H1 => if k = true then tE c W (ev R ib) σ H1 Q else Q (.bl false) H1 := by
  refine testB_ok (k := fun c => bothK c (ev R ib)) (rep := rM c) h fun S e s b Rr p => ?_
  cases b with
  | true => exact ⟨S, e, s, rfl, Rr, p⟩
  | false => exact end_val Rr p rfl
theorem either_ok {ia ib : IE} {σ : L2.St} {H : Hp} {Q : VK} (h : tE c W (ev R (.either ia ib)) σ H Q) : tT c W (ev R ia) σ H fun k H1 => if k = true then Q (.bl true) H1 else tE c W (ev R ib) σ H1 Q := by
  refine testB_ok (k := fun c => eitherK c (ev R ib)) (rep := rM c) h fun S e s b Rr p => ?_
  cases b with
  | true => exact end_val Rr p rfl
  | false => exact ⟨S, e, s, rfl, Rr, p⟩
theorem Res.bind_bind {α β γ : Type} (r : Res α) (f : α → OI.Env → Store → Res β) (g : β → OI.Env → Store → Res γ) : (r.bind f).bind g = r.bind fun a e s => (f a e s).bind g := by
  cases r <;> rfl
theorem test_both (ia ib : IE) (e : OI.Env) (s : Store) : testB (ev R (.both ia ib)) e s = (testB (ev R ia) e s).bind fun k e s => if k = true then testB (ev R ib) e s else .ok false e s := by
  show ((testB (ev R ia) e s).bind fun k => bothK k (ev R ib)).bind _ = _
  rw [Res.bind_bind]
  congr 1
  funext k e1 s1
  cases k <;> rfl
theorem test_either (ia ib : IE) (e : OI.Env) (s : Store) : testB (ev R (.either ia ib)) e s = (testB (ev R ia) e s).bind fun k e s => if k = true then .ok true e s else testB (ev R ib) e s := by
  show ((testB (ev R ia) e s).bind fun k => eitherK k (ev R ib)).bind _ = _
  rw [Res.bind_bind]
  congr 1
  funext k e1 s1
  cases k <;> rfl
theorem test_not (ia : IE) (e : OI.Env) (s : Store) : testB (ev R (.nott ia)) e s = (testB (ev R ia) e s).bind fun k e s => .ok (!k) e s := by
  show ((testB (ev R ia) e s).bind fun k => okB (!k)).bind _ = _
  rw [Res.bind_bind]
  rfl
theorem both_t {ia ib : IE} {σ : L2.St} {H : Hp} {Q : Bool → Hp → Prop} (h : tT c W (ev R (.both ia ib)) σ H Q) : tT c W (ev R ia) σ H fun k H1 => if k = true then tT c W (ev R ib) σ H1 Q else Q false H1 := by
  obtain ⟨S, e, s, rfl, Rr, p⟩ := h
  rw [test_both] at p
  refine ⟨S, e, s, rfl, Rr, PostG.bind Rr.toRlS p fun k e1 s1 S1 k' q1 R1 st1 rp1 p1 => ?_⟩
  cases rp1
  cases k with
  | true => exact ⟨S1, e1, s1, rfl, R1, p1⟩
  | false => exact p1 S1 false R1 (StE.refl S1 s1) rfl
theorem either_t {ia ib : IE} {σ : L2.St} {H : Hp} {Q : Bool → Hp → Prop} (h : tT c W (ev R (.either ia ib)) σ H Q) : tT c W (ev R ia) σ H fun k H1 => if k = true then Q true H1 else tT c W (ev R ib) σ H1 Q := by
  obtain ⟨S, e, s, rfl, Rr, p⟩ := h
  rw [test_either] at p
  refine ⟨S, e, s, rfl, Rr, PostG.bind Rr.toRlS p fun k e1 s1 S1 k' q1 R1 st1 rp1 p1 => ?_⟩
  cases rp1
  cases k with
  | true => exact p1 S1 true R1 (StE.refl S1 s1) rfl
  | false => exact ⟨S1, e1, s1, rfl, R1, p1⟩
section
variable {a b : Expr} {rest : List Expr} {ia ib : IE} {pos : Pos}
theorem and_last (h : SE X c W a (ev R ia)) : SE X c W (.BoolOp .And [a] pos) (ev R ia) := ⟨pe_one h.pe, (pw_and1 h.pt).pt, fun op vs p e => by cases e; exact pw_and1 h.pt⟩
theorem or_last (h : SE X c W a (ev R ia)) : SE X c W (.BoolOp .Or [a] pos) (ev R ia) := ⟨pe_one h.pe, (pw_or1 h.pt).pt, fun op vs p e => by cases e; exact pw_or1 h.pt⟩
/-- a bool's value, as the next operand asks it -/
theorem tE_bool {fa : OI.Env → Store → Res (M × Pl)} {σ : L2.St} {H : Hp} {Q : Bool → Hp → Prop} (h : tT c W fa σ H Q) : tE c W fa σ H fun x H1 => ∃ k, x = .bl k ∧ Q k H1 := testB_val h
theorem s_both (ha : SE X c W a (ev R ia)) (hb : SE X c W (.BoolOp .And (b :: rest) pos) (ev R ib)) : SE X c W (.BoolOp .And (a :: b :: rest) pos) (ev R (.both ia ib)) :=
  have pw : PW X (.BoolOp .And (a :: b :: rest) pos) (tT c W (ev R (.both ia ib))) := ⟨fun wh pins s σ H Q I q => (pw_and ha.pt (hb.pw _ _ _ rfl)).run wh pins s σ H Q I (both_t q)⟩
  ⟨(pe_and ha.pe hb.pe).weak fun σ H Q q => tE_bool (both_ok q), pw.pt, fun op vs p e => by cases e; exact pw⟩
theorem s_either (ha : SE X c W a (ev R ia)) (hb : SE X c W (.BoolOp .Or (b :: rest) pos) (ev R ib)) : SE X c W (.BoolOp .Or (a :: b :: rest) pos) (ev R (.either ia ib)) :=
  have pw : PW X (.BoolOp .Or (a :: b :: rest) pos) (tT c W (ev R (.either ia ib))) := ⟨fun wh pins s σ H Q I q => (pw_or ha.pt (hb.pw _ _ _ rfl)).run wh pins s σ H Q I (either_t q)⟩
  ⟨(pe_or ha.pe hb.pe).weak fun σ H Q q => tE_bool (either_ok q), pw.pt, fun op vs p e => by cases e; exact pw⟩
theorem s_not (ha : SE X c W a (ev R ia)) : SE X c W (.UnaryOp .Not a pos) (ev R (.nott ia)) := by
  refine ⟨(pe_not ha.pe).weak fun σ H Q q => tE_bool (testB_ok (k := fun k => okB (!k)) (rep := rM c) q fun S e s b Rr p => end_val Rr p rfl), (pt_not ha.pt).weak fun σ H Q q => ?_, fun op vs p e => by cases e⟩
  obtain ⟨S, e, s, rfl, Rr, p⟩ := q
  rw [test_not] at p
  refine ⟨S, e, s, rfl, Rr, PostG.bind Rr.toRlS p fun k e1 s1 S1 k' q1 R1 st1 rp1 p1 => ?_⟩
  cases rp1
  exact p1 S1 (!k) R1 (StE.refl S1 s1) rfl
/-- a value, as it may be handed on: whose it was is settled -/
theorem vl_ok {α β : Type} {x : M × Pl} {v : V} {σ : L2.St} {S : Wd} {e : OI.Env} {s : Store} {k : M → OI.Env → Store → Res α} {rep : Wd → Store → α → β → Prop} {Q : β → Hp → Prop} {G : Prop} (Rr : Rl c S e s σ) (rp : rM c σ S s x v)
    (h : PostG c W σ S s ((vl x.1 x.2 e s).bind k) rep Q) (g : ∀ S1 m e1, Rl c S1 e1 s σ → StE S S1 s s → S1.H = S.H → RepM c S1 .tmp m v → PostG c W σ S1 s (k m e1 s) rep Q → G) : G := by
  obtain ⟨m, pl⟩ := x
  obtain ⟨r1, r2⟩ := rp
  have other : ∀ (hm : m.isVal = false), G := fun hm => by
    dsimp only at h
    cases pl with
    | slot i =>
      have e0 : vl m (.slot i) e s = .ok (.val m.frz) (e.set i (some (.val m.frz))) s := by
        cases m <;> first | rfl | cases hm
      rw [e0] at h
      have hlt : i < e.length := by
        rw [Rr.elen]
        exact (List.getElem?_eq_some_iff.mp r2).1
      obtain ⟨S1, R1, hH, hd, st⟩ := Rr.frzSlot hm r2 r1 hlt
      exact g S1 (.val m.frz) _ R1 st hH hd (PostG.shift Rr.toRlS st h)
    | tmp =>
      have e0 : vl m .tmp e s = .ok m e s := by
        cases m <;> first | rfl | cases hm
      rw [e0] at h
      exact g S m e Rr (StE.refl S s) rfl r1 h
    | fld n f =>
      have e0 : vl m (.fld n f) e s = .bad := by
        cases m <;> first | rfl | cases hm
      rw [e0] at h
      exact h.elim
    | obj n => exact r2.elim
    | oth => exact r2.elim
  cases m with
  | val d => exact g S (.val d) e Rr (StE.refl S s) rfl r1 h
  | ol xs => exact other rfl
  | od t kvs => exact other rfl
end
end
end OI

/-! OIj: values handed on, argument lists, displays, subscripts, slices, attributes. -/
namespace OI
open PySem PySem.Spec PyProof.Rows L2
def IEs.len : IEs → Nat
  | .nil => 0
  | .cons _ r => r.len + 1
def IPs.len : IPs → Nat
  | .nil => 0
  | .cons _ _ r => r.len + 1
section
variable {X : Cx} {c : Cn} {W : WX} {R : Runs}
theorem evs_len : ∀ {es : IEs} {e e' : OI.Env} {s s' : Store} {ds : List D}, evs R es e s = .ok ds e' s' → ds.length = es.len
  | .nil, _, _, _, _, _, h => by
    have h : Res.ok [] _ _ = Res.ok _ _ _ := h
    cases h
    rfl
  | .cons a r, e, e', s, s', ds, h => by
    have h : (valD (ev R a) e s).bind (fun d e1 s1 => (evs R r e1 s1).bind fun ds e2 s2 => .ok (d :: ds) e2 s2) = .ok ds e' s' := h
    cases w : valD (ev R a) e s with
    | ok d e1 s1 =>
      rw [w] at h
      have h : (evs R r e1 s1).bind (fun ds e2 s2 => .ok (d :: ds) e2 s2) = .ok ds e' s' := h
      cases w2 : evs R r e1 s1 with
      | ok ds2 e2 s2 =>
        rw [w2] at h
        have h : Res.ok (d :: ds2) e2 s2 = .ok ds e' s' := h
        cases h
        rw [List.length_cons, evs_len w2]
        rfl
      | err k e1 s1 => rw [w2] at h; cases h
      | bad => rw [w2] at h; cases h
    | err k e1 s1 => rw [w] at h; cases h
    | bad => rw [w] at h; cases h
/-- an operand's value as data -/
theorem valD_ok {α β : Type} {fa : OI.Env → Store → Res (M × Pl)} {k : D → OI.Env → Store → Res α} {rep : L2.St → Wd → Store → α → β → Prop} {σ : L2.St} {Q : β → Hp → Prop} {rest : V → Hp → Prop} {S : Wd} {e : OI.Env} {s : Store} (Rr : Rl c S e s σ)
    (h : PostG c W σ S s ((valD fa e s).bind k) (rep σ) Q) (hr : ∀ S1 e1 s1 d v, Rl c S1 e1 s1 σ → StE S S1 s s1 → RepD c S1 d v → PostG c W σ S1 s1 (k d e1 s1) (rep σ) Q → rest v S1.H) : tE c W fa σ S.H rest := by
  unfold valD at h
  rw [Res.bind_bind] at h
  refine ⟨S, e, s, rfl, Rr, PostG.bind Rr.toRlS h fun x e1 s1 S1 v q1 R1 st1 rp1 p1 => ?_⟩
  rw [Res.bind_bind] at p1
  refine vl_ok (rep := rep σ) R1 rp1 p1 fun S2 m e2 R2 st2 hH rp2 p2 => ?_
  obtain ⟨S3, R3, hH3, hd, st3⟩ := frz_ste R2 rp2
  rw [← hH, ← hH3]
  exact hr S3 e2 s1 m.frz v R3 ((st1.trans Rr.dom st2).trans Rr.dom st3) hd (PostG.shift R2.toRlS st3 p2)
/-- .. or as what it is -/
theorem valM_ok {α β : Type} {fa : OI.Env → Store → Res (M × Pl)} {k : M → OI.Env → Store → Res α} {rep : L2.St → Wd → Store → α → β → Prop} {σ : L2.St} {Q : β → Hp → Prop} {rest : V → Hp → Prop} {S : Wd} {e : OI.Env} {s : Store} (Rr : Rl c S e s σ)
    (h : PostG c W σ S s ((valM fa e s).bind k) (rep σ) Q) (hr : ∀ S1 e1 s1 m v, Rl c S1 e1 s1 σ → StE S S1 s s1 → RepM c S1 .tmp m v → PostG c W σ S1 s1 (k m e1 s1) (rep σ) Q → rest v S1.H) : tE c W fa σ S.H rest := by
  unfold valM at h
  rw [Res.bind_bind] at h
  refine ⟨S, e, s, rfl, Rr, PostG.bind Rr.toRlS h fun x e1 s1 S1 v q1 R1 st1 rp1 p1 => ?_⟩
  refine vl_ok (rep := rep σ) R1 rp1 p1 fun S2 m e2 R2 st2 hH rp2 p2 => ?_
  rw [← hH]
  exact hr S2 e2 s1 m v R2 (st1.trans Rr.dom st2) rp2 p2
theorem s_nil : PA X [] (tA c W (evs R .nil)) := pa_nil.weak fun σ H Q q => by
  obtain ⟨S, e, s, rfl, Rr, p⟩ := q
  exact p S [] Rr (StE.refl S s) rfl
theorem s_cons {a : Expr} {as : List Expr} {ia : IE} {ias : IEs} (hp : plainE a = true) (ha : PE X a (tE c W (ev R ia))) (hr : PA X as (tA c W (evs R ias))) : PA X (a :: as) (tA c W (evs R (.cons ia ias))) :=
  (pa_cons ha hr (plain_star hp as X.env)).weak fun σ H Q q => by
    obtain ⟨S, e, s, rfl, Rr, p⟩ := q
    refine valD_ok (rep := fun _ => rDs c) Rr p fun S1 e1 s1 d v R1 st1 rd p1 => ?_
    refine ⟨S1, e1, s1, rfl, R1, PostG.bind R1.toRlS p1 fun ds e2 s2 S2 vs q2 R2 st2 rds p2 => ?_⟩
    exact p2 S2 (v :: vs) R2 (StE.refl S2 s2) ⟨v, vs, rfl, rd.mono st2.toFr, rds⟩
theorem args_ok {α β : Type} {ias : IEs} {k : List D → OI.Env → Store → Res α} {rep : L2.St → Wd → Store → α → β → Prop} {σ : L2.St} {H : Hp} {Q : β → Hp → Prop} {rest : List V → Hp → Prop} (h : tG c W (fun e s => (evs R ias e s).bind k) rep σ H Q)
    (hr : ∀ S e s ds vs, Rl c S e s σ → RepDs c S ds vs → ds.length = ias.len → PostG c W σ S s (k ds e s) (rep σ) Q → rest vs S.H) : tA c W (evs R ias) σ H rest := by
  obtain ⟨S, e, s, rfl, Rr, p⟩ := h
  exact ⟨S, e, s, rfl, Rr, PostG.bind Rr.toRlS p fun ds e1 s1 S1 vs q1 R1 st1 rp1 p1 => hr S1 e1 s1 ds vs R1 rp1 (evs_len q1) p1⟩
theorem s_tup {as : List Expr} {ias : IEs} {x1 : Nat} {pos : Pos} (hn : ias.len ≤ 16777216) (h : PA X as (tA c W (evs R ias))) : PE X (.Tuple as x1 pos) (tE c W (ev R (.tup ias))) :=
  (pe_tup h).weak fun σ H Q q => args_ok (k := fun ds => okV (.tup ds)) (rep := rM c) q fun S e s ds vs Rr r hl p => by
    have hv : vs.length ≤ 16777216 := by rw [r.length, hl]; exact hn
    refine ⟨by rw [sizeLine_eq]; exact hv, fun a na => ?_⟩
    obtain ⟨S', al, hH, rp⟩ := new_tup Rr.toRlS na r hv
    have := end_al Rr p al rp
    rw [hH] at this
    exact this
theorem s_lst {as : List Expr} {ias : IEs} {pos : Pos} (hn : ias.len ≤ 16777216) (h : PA X as (tA c W (evs R ias))) : PE X (.List as pos) (tE c W (ev R (.lst ias))) :=
  (pe_lst h).weak fun σ H Q q => args_ok (k := lstK) (rep := rM c) q fun S e s ds vs Rr r hl p => by
    have hv : vs.length ≤ 16777216 := by rw [r.length, hl]; exact hn
    refine ⟨by rw [sizeLine_eq]; exact hv, fun a na => ?_⟩
    obtain ⟨S', al, hH, rp⟩ := new_lst Rr.toRlS na r hv
    have := end_al Rr p al rp
    rw [hH] at this
    exact this
theorem s_idx {a b : Expr} {ia ib : IE} {pos : Pos} (hK : X.K = c.K) (hu : X.A.units + 65 < cLine) (hb' : plainE b = true) (ha : PE X a (tE c W (ev R ia))) (hb : PE X b (tE c W (ev R ib))) : PE X (.Subscript a b pos) (tE c W (ev R (.idx ia ib))) :=
  (pe_ix (v_index hK hu) ha hb (plain_ix hb')).weak fun σ H Q q => two_ok q fun S e s m1 m2 x y Rr r1 r2 p => by
    unfold outD at p
    split at p
    · rename_i d hd
      exact ⟨S, s, m1, m2, d, rfl, Rr.toRlS, r1, r2, hd, fun v rd => end_val Rr p rd⟩
    · exact p.elim
/-! slices -/
def tO (c : Cn) (W : WX) (f : OI.Env → Store → Res (Option Int)) : TO := tG c W f fun _ _ _ a b => a = b
theorem s_no : PO X none (tO c W (evo R .no)) :=
  ⟨fun pins s σ H Q I h => by
    obtain ⟨S, e, s', rfl, Rr, p⟩ := h
    exact po_none.run pins s σ S.H Q I (p S none Rr (StE.refl _ _) rfl)⟩
theorem s_yes {a : Expr} {ia : IE} (ha : PE X a (tE c W (ev R ia))) : PO X (some a) (tO c W (evo R (.yes ia))) :=
  ⟨fun pins s σ H Q I h => by
    obtain ⟨S, e, s', rfl, Rr, p⟩ := h
    refine (po_some ha).run pins s σ S.H Q I ⟨S, e, s', rfl, Rr, PostG.bind Rr.toRlS p fun x e1 s1 S1 v q1 R1 st1 rp1 p1 => ?_⟩
    unfold partK at p1
    split at p1
    · rename_i i hx
      have r := rp1.1
      rw [hx] at r
      exact ⟨i, r, p1 S1 (some i) R1 (StE.refl _ _) rfl⟩
    · exact p1.elim⟩
theorem s_slc {a : Expr} {lo hi : Option Expr} {ia : IE} {il ih : IO} {p2 pos : Pos} (hK : X.K = c.K) (ha : PE X a (tE c W (ev R ia))) (hl : PO X lo (tO c W (evo R il))) (hh : PO X hi (tO c W (evo R ih))) : PE X (.Subscript a (.Slice lo hi none p2) pos) (tE c W (ev R (.slc ia il ih))) :=
  (pe_slice (v_slice hK) ha hl hh).weak fun σ H Q q => by
    obtain ⟨S, e, s, rfl, Rr, p⟩ := q
    refine ⟨S, e, s, rfl, Rr, PostG.bind Rr.toRlS p fun x e1 s1 S1 v1 q1 R1 st1 rp1 p1 => ?_⟩
    obtain ⟨S1', pl', R1', hH, ham, rp1', hpl, hbw, _, st1'⟩ := pend R1 rp1.1
    replace p1 := PostG.shift R1.toRlS st1' p1
    refine ⟨S1', e1, s1, hH, R1', PostG.bind R1'.toRlS p1 fun l e2 s2 S2 vl q2 R2 st2 rp2 p2 => ?_⟩
    refine ⟨S2, e2, s2, rfl, R2, PostG.bind R2.toRlS p2 fun h e3 s3 S3 vh q3 R3 st3 rp3 p3 => ?_⟩
    subst rp2 rp3
    unfold slcK at p3
    rw [← hbw] at p3
    split at p3
    · rename_i hs
      obtain ⟨m, hm, p3⟩ := out_ok p3
      exact ⟨S3, s3, _, m, rfl, R3.toRlS, bw_keep R1'.toRlS rp1' hpl (st2.trans R1'.dom st3) hs, hm, fun S' v al rp => end_al R3 p3 al rp⟩
    · exact p3.elim
end
end OI

/-! OIk: built-ins, conditionals, isinstance, calls of defs. -/
namespace OI
open PySem PySem.Spec PyProof.Rows L2

/-! ### built-ins -/
section
variable {X : Cx} {c : Cn} {W : WX} {R : Runs}
theorem three_ok {fa fb fc : OI.Env → Store → Res (M × Pl)} {k : M → M → M → OI.Env → Store → Res (M × Pl)} {σ : L2.St} {H : Hp} {Q : VK} {rest : V → V → V → Hp → Prop} (h : tE c W (three fa fb fc k) σ H Q)
    (hr : ∀ S e s m1 m2 m3 x y z, Rl c S e s σ → RepV c S m1 x → RepV c S m2 y → RepV c S m3 z → PostG c W σ S s (k m1 m2 m3 e s) (rM c σ) Q → rest x y z S.H) :
    tE c W fa σ H fun x H1 => tE c W fb σ H1 fun y H2 => tE c W fc σ H2 fun z H3 => rest x y z H3 := by
  obtain ⟨S, e, s, rfl, Rr, p⟩ := h
  refine ⟨S, e, s, rfl, Rr, PostG.bind Rr.toRlS p fun x1 e1 s1 S1 v1 q1 R1 st1 rp1 p1 => ?_⟩
  obtain ⟨S1', pl', R1', hH, ham, rp1', hpl, hbw, _, st1'⟩ := pend R1 rp1.1
  replace p1 := PostG.shift R1.toRlS st1' p1
  refine ⟨S1', e1, s1, hH, R1', PostG.bind R1'.toRlS p1 fun x2 e2 s2 S2 v2 q2 R2 st2 rp2 p2 => ?_⟩
  obtain ⟨S2', pl2', R2', hH2, ham2, rp2', hpl2, hbw2, _, st2'⟩ := pend R2 rp2.1
  replace p2 := PostG.shift R2.toRlS st2' p2
  refine ⟨S2', e2, s2, hH2, R2', PostG.bind R2'.toRlS p2 fun x3 e3 s3 S3 v3 q3 R3 st3 rp3 p3 => ?_⟩
  split at p3
  · rename_i hs
    rw [Bool.and_eq_true] at hs
    obtain ⟨hs1, hs2⟩ := hs
    rw [← hbw] at hs1 p3
    rw [← hbw2] at hs2 p3
    exact hr S3 e3 s3 _ _ _ v1 v2 v3 R3 (bw_keep R1'.toRlS rp1' hpl ((st2.trans R1'.dom st2').trans R1'.dom st3) hs1) (bw_keep R2'.toRlS rp2' hpl2 st3 hs2) (bw_view R3.toRlS rp3.1) p3
  · exact p3.elim
variable {x : Str} {id T : String} {p pos : Pos} {a a2 a3 : Expr} {ia ib ic : IE} {f : String}
theorem one_R1 {fa : OI.Env → Store → Res (M × Pl)} {k : M → Option M} {σ : L2.St} {H : Hp} {Q : VK} (h : tE c W (one fa fun x => out (k x)) σ H Q) : tCB (R1c c k) (tCons (tE c W fa) tNil) σ H Q :=
  one_ok h fun S e s m1 x Rr r1 p => by
    obtain ⟨m, hm, p⟩ := out_ok p
    exact ⟨S, s, m1, x, m, rfl, rfl, Rr.toRlS, r1, hm, fun S' v al rp => end_al Rr p al rp⟩
theorem two_R2c {fa fb : OI.Env → Store → Res (M × Pl)} {k : M → M → Option M} {σ : L2.St} {H : Hp} {Q : VK} (h : tE c W (two fa fb fun x y => out (k x y)) σ H Q) : tCB (R2c c k) (tCons (tE c W fa) (tCons (tE c W fb) tNil)) σ H Q :=
  two_ok h fun S e s m1 m2 x y Rr r1 r2 p => by
    obtain ⟨m, hm, p⟩ := out_ok p
    exact ⟨S, s, m1, m2, x, y, m, rfl, rfl, Rr.toRlS, r1, r2, hm, fun S' v al rp => end_al Rr p al rp⟩
theorem three_R3c {fa fb fc : OI.Env → Store → Res (M × Pl)} {k : M → M → M → Option M} {σ : L2.St} {H : Hp} {Q : VK} (h : tE c W (three fa fb fc fun x y z => out (k x y z)) σ H Q) : tCB (R3c c k) (tCons (tE c W fa) (tCons (tE c W fb) (tCons (tE c W fc) tNil))) σ H Q :=
  three_ok h fun S e s m1 m2 m3 x y z Rr r1 r2 r3 p => by
    obtain ⟨m, hm, p⟩ := out_ok p
    exact ⟨S, s, m1, m2, m3, x, y, z, m, rfl, rfl, Rr.toRlS, r1, r2, r3, hm, fun S' v al rp => end_al Rr p al rp⟩
theorem pa1 {t : TE} (hp : plainE a = true) (ha : PE X a t) : PA X [a] (tCons t tNil) := pa_cons ha pa_nil (plain_star hp [] X.env)
theorem pa2 {t u : TE} (hp : plainE a = true) (ha : PE X a t) (hp2 : plainE a2 = true) (ha2 : PE X a2 u) : PA X [a, a2] (tCons t (tCons u tNil)) := pa_cons ha (pa1 hp2 ha2) (plain_star hp [a2] X.env)
theorem pa3 {t u w : TE} (hp : plainE a = true) (ha : PE X a t) (hp2 : plainE a2 = true) (ha2 : PE X a2 u) (hp3 : plainE a3 = true) (ha3 : PE X a3 w) : PA X [a, a2, a3] (tCons t (tCons u (tCons w tNil))) := pa_cons ha (pa2 hp2 ha2 hp3 ha3) (plain_star hp [a2, a3] X.env)
theorem star1 (hp : plainE a = true) : starEach [a] X.env = [(false, eval a X.env)] := plain_star hp [] X.env
theorem star2 (hp : plainE a = true) (hp2 : plainE a2 = true) : starEach [a, a2] X.env = [(false, eval a X.env), (false, eval a2 X.env)] := by rw [plain_star hp, plain_star hp2]; rfl
theorem any0 {pos : Pos} : (backTo pos (starEach [] X.env)).any (·.1) = false := rfl
theorem any1 {pos : Pos} (hp : plainE a = true) : (backTo pos (starEach [a] X.env)).any (·.1) = false := by rw [star1 hp]; rfl
theorem any2 {pos : Pos} (hp : plainE a = true) (hp2 : plainE a2 = true) : (backTo pos (starEach [a, a2] X.env)).any (·.1) = false := by rw [star2 hp hp2]; rfl
section
variable (hg : Gl X x) (hm : X.mg x = none) (hn : x ≠ "__name__") (hdb : (x == ("__debug__" : Str)) = false)
include hg hm hn hdb
theorem s_bi1B (hc : CallR X (.builtin id) (R1c c (bi1 f))) (hv : bootBuiltins x = some (.builtin id)) (hp : plainE a = true) (ha : PE X a (tE c W (ev R ia))) : PE X (.Call (.Name x p) [a] [] pos) (tE c W (ev R (.bi1 f ia))) :=
  (pe_callB hc hg hm hv (pa1 hp ha) hn hdb (plain_star hp [] X.env) any0).weak fun σ H Q q => one_R1 q
theorem s_bi1T (hc : CallR X (.type T) (R1c c (bi1 f))) (hv : bootBuiltins x = some (.type T)) (hp : plainE a = true) (ha : PE X a (tE c W (ev R ia))) : PE X (.Call (.Name x p) [a] [] pos) (tE c W (ev R (.bi1 f ia))) :=
  (pe_callTy hc hg hm hv (pa1 hp ha) hn hdb (plain_star hp [] X.env) any0).weak fun σ H Q q => one_R1 q
theorem s_bi2B (hc : CallR X (.builtin id) (R2c c (bi2 f))) (hv : bootBuiltins x = some (.builtin id)) (hp : plainE a = true) (ha : PE X a (tE c W (ev R ia))) (hp2 : plainE a2 = true) (hb : PE X a2 (tE c W (ev R ib))) : PE X (.Call (.Name x p) [a, a2] [] pos) (tE c W (ev R (.bi2 f ia ib))) :=
  (pe_callB hc hg hm hv (pa2 hp ha hp2 hb) hn hdb (plain_star hp [a2] X.env) (any1 hp2)).weak fun σ H Q q => two_R2c q
theorem s_bi3B (hc : CallR X (.builtin id) (R3c c (bi3 f))) (hv : bootBuiltins x = some (.builtin id)) (hp : plainE a = true) (ha : PE X a (tE c W (ev R ia))) (hp2 : plainE a2 = true) (hb : PE X a2 (tE c W (ev R ib))) (hp3 : plainE a3 = true) (hb3 : PE X a3 (tE c W (ev R ic))) :
    PE X (.Call (.Name x p) [a, a2, a3] [] pos) (tE c W (ev R (.bi3 f ia ib ic))) :=
  (pe_callB hc hg hm hv (pa3 hp ha hp2 hb hp3 hb3) hn hdb (plain_star hp [a2, a3] X.env) (any2 hp2 hp3)).weak fun σ H Q q => three_R3c q
end

/-! ### a if t else b -/
theorem tM_end {fa : OI.Env → Store → Res (M × Pl)} {σ : L2.St} {S : Wd} {e : OI.Env} {s : Store} {Q : VK} (Rr : Rl c S e s σ) (p : PostG c W σ S s (outM (valM fa e s)) (rM c σ) Q) : tE c W fa σ S.H Q := by
  unfold outM at p
  exact valM_ok (k := fun m e s => Res.ok (m, Pl.tmp) e s) (rep := rM c) Rr p fun S1 e1 s1 m v R1 st1 rp p1 => p1 S1 v R1 (StE.refl S1 s1) ⟨rp, trivial⟩
theorem s_ife {t b : Expr} {it : IE} (ht : PT X t (tT c W (ev R it))) (ha : PE X a (tE c W (ev R ia))) (hb : PE X b (tE c W (ev R ib))) : PE X (.IfExp t a b pos) (tE c W (ev R (.ife it ia ib))) :=
  (pe_ifExp ht ha hb).weak fun σ H Q q => testB_ok (k := fun k => ifeK k (valM (ev R ia)) (valM (ev R ib))) (rep := rM c) q fun S e s k Rr p => by
    unfold ifeK at p
    cases k with
    | true => exact tM_end Rr p
    | false => exact tM_end Rr p

/-! ### isinstance -/
/-- the types of D that are built in -/
def Ty.name? : Ty → Option String
  | .tup => some "tuple"
  | .lst => some "list"
  | .str => some "str"
  | .bl => some "bool"
  | .int => some "int"
  | _ => none
/-- what tyIs says of a built-in type is what the kit says -/
theorem ty_of {S : Wd} {s : Store} {m : M} {v : V} {t : Ty} {n : String} {b : Bool} (Rr : RlS c S s) (r : RepV c S m v) (hn : t.name? = some n) (h : tyIs s m.frz t = some b) :
    ∃ ty, TyX c.K S.H v (.type ty) ∧ ∀ t n b, t.name? = some n → tyIs s m.frz t = some b → kitB ty n = some b := by
  have lst : ∀ p vs, v = .ref p → S.H p = some (.lst vs) → (∃ xs, m.frz = .lst xs) → ∃ ty, TyX c.K S.H v (.type ty) ∧ ∀ t n b, t.name? = some n → tyIs s m.frz t = some b → kitB ty n = some b := fun p vs e hf ⟨xs, ex⟩ => by
    subst e
    refine ⟨"list", .base (.lst hf), fun t n b hn h => ?_⟩
    rw [ex] at h
    cases t <;> cases hn <;> cases h <;> decide +kernel
  cases m with
  | ol xs => obtain ⟨p, vs, e, h1, _⟩ := r; exact lst p vs e h1 ⟨xs, rfl⟩
  | od u kvs => cases h
  | val d =>
    cases d with
    | non =>
      cases r
      refine ⟨_, .base .non, fun t n b hn h => ?_⟩
      cases t <;> cases hn <;> cases h <;> decide +kernel
    | bl x =>
      cases r
      refine ⟨_, .base (.bl x), fun t n b hn h => ?_⟩
      cases t <;> cases hn <;> cases h <;> decide +kernel
    | int x =>
      cases r
      refine ⟨_, .base (.int x), fun t n b hn h => ?_⟩
      cases t <;> cases hn <;> cases h <;> decide +kernel
    | str x =>
      cases r
      refine ⟨_, .base (.str x), fun t n b hn h => ?_⟩
      cases t <;> cases hn <;> cases h <;> decide +kernel
    | tup xs =>
      obtain ⟨p, vs, rfl, hf, _⟩ := r
      have hk : TyX c.K S.H (.ref p) (.type "tuple") := by
        rcases hf with ⟨h | ⟨o, h⟩, _⟩ | ⟨o, its, n, h1, h2, _⟩
        · exact .base (.tup h)
        · exact .fTuple h
        · exact .kTuple h1 h2
      refine ⟨_, hk, fun t n b hn h => ?_⟩
      cases t <;> cases hn <;> cases h <;> decide +kernel
    | lst xs => obtain ⟨p, vs, e, h1, _⟩ := r; exact lst p vs e h1 ⟨xs, rfl⟩
    | scr ns => cases h
    | dic u kvs => cases h
    | lam _ _ => cases h
    | exn x => cases t <;> cases hn <;> cases h
    | loc k =>
      obtain ⟨a, rfl, ha⟩ := r
      have h' : tyIs s (.loc k) t = some b := h
      unfold tyIs at h'
      dsimp only at h'
      split at h'
      · rename_i xs w he
        obtain ⟨_, vs, h1, _⟩ := Rl.locs Rr ha he
        refine ⟨"list", .base (.lst h1), fun t n b hn h => ?_⟩
        have h2 : tyIs s (.loc k) t = some b := h
        unfold tyIs at h2
        dsimp only at h2
        rw [he] at h2
        cases t <;> cases hn <;> cases h2 <;> decide +kernel
      · cases t <;> cases hn <;> cases h'
      · cases h'
theorem any_of {s : Store} {d : D} {ty : String} (k : ∀ t n b, t.name? = some n → tyIs s d t = some b → kitB ty n = some b) {K : PySem.W.Frag} : ∀ {ts : List Ty} {ns : List String} {b : Bool}, ts.mapM Ty.name? = some ns → tyAny s d ts = some b →
    PySem.W.kitAny K (.type ty) (ns.map Value.type) = some b
  | [], _, _, h1, h2 => by
    cases h1
    cases h2
    rfl
  | t :: ts, ns, b, h1, h2 => by
    rw [List.mapM_cons] at h1
    cases e : t.name? with
    | none => rw [e] at h1; cases h1
    | some n =>
      cases e2 : ts.mapM Ty.name? with
      | none => rw [e, e2] at h1; cases h1
      | some ms =>
        rw [e, e2] at h1
        have h1 : some (n :: ms) = some ns := h1
        cases h1
        unfold tyAny at h2
        split at h2
        · rename_i h3
          cases h2
          exact kitAny_cons (kit_ty (k t n true e h3)) (fun z => nomatch z) fun _ => rfl
        · rename_i h3
          exact kitAny_cons (kit_ty (k t n false e h3)) (fun _ => any_of k e2 h2) fun z => nomatch z
        · cases h2
theorem any_one {s : Store} {d : D} {t : Ty} {b : Bool} (h : tyAny s d [t] = some b) : tyIs s d t = some b := by
  unfold tyAny at h
  split at h
  · rename_i h3; cases h; exact h3
  · rename_i h3
    cases h
    exact h3
  · cases h
theorem isi_ok {o : Bool} {ts : List Ty} {σ : L2.St} {H : Hp} {Q : VK} {rest : V → Hp → Prop} (h : tE c W (ev R (.isi ia o ts)) σ H Q)
    (hr : ∀ S e s m pl v b, Rl c S e s σ → RepM c S pl m v → tyAny s m.frz ts = some b → PostG c W σ S s (.ok (.val (.bl b), .tmp) e s) (rM c σ) Q → rest v S.H) : tE c W (ev R ia) σ H rest := by
  obtain ⟨S, e, s, rfl, Rr, p⟩ := h
  refine ⟨S, e, s, rfl, Rr, PostG.bind Rr.toRlS p fun x1 e1 s1 S1 v1 q1 R1 st1 rp1 p1 => ?_⟩
  unfold isiK at p1
  obtain ⟨b, hb, p1⟩ := outB_ok p1
  exact hr S1 e1 s1 x1.1 x1.2 v1 b R1 rp1.1 hb p1
theorem s_isi1 {n : String} {t : Ty} {np : Pos} {nx : Str} (hK : X.K = c.K) (hg : Gl X "isinstance") (hm : X.mg "isinstance" = none) (hg2 : Gl X nx) (hm2 : X.mg nx = none) (hv : bootBuiltins nx = some (.type n)) (hn : nx ≠ "__name__") (hdb : (nx == ("__debug__" : Str)) = false)
    (ht : t.name? = some n) (hp : plainE a = true) (ha : PE X a (tE c W (ev R ia))) : PE X (.Call (.Name "isinstance" p) [a, .Name nx np] [] pos) (tE c W (ev R (.isi ia true [t]))) :=
  (pe_callB call_isi hg hm rfl (pa2 hp ha rfl (pe_bltn (v := .ty n) hg2 hm2 hv rfl hn hdb)) (by decide) (by decide) (plain_star hp _ X.env) (any1 rfl)).weak fun σ H Q q => isi_ok q fun S e s m pl v b Rr rp hb p => by
    obtain ⟨ty, h1, h2⟩ := ty_of Rr.toRlS rp.view ht (any_one hb)
    rw [← hK] at h1
    exact ⟨v, .ty n, _, _, b, rfl, .ty n, h1, kit_ty (h2 t n b ht (any_one hb)), end_val Rr p rfl⟩
/-- the names of built-in types, one after another -/
inductive TyNames (X : Cx) : List Expr → List String → Prop where
  | nil : TyNames X [] []
  | cons {x : Str} {n : String} {p : Pos} {as : List Expr} {ns : List String} (hg : Gl X x) (hm : X.mg x = none) (hv : bootBuiltins x = some (.type n)) (hn : x ≠ "__name__") (hdb : (x == ("__debug__" : Str)) = false) (r : TyNames X as ns) : TyNames X (.Name x p :: as) (n :: ns)
theorem TyNames.pa : ∀ {as : List Expr} {ns : List String}, TyNames X as ns → PA X as fun _ H Q => Q (ns.map V.ty) H
  | _, _, .nil => pa_nil
  | _, _, .cons hg hm hv hn hdb r => pa_cons (pe_bltn (v := .ty _) hg hm hv rfl hn hdb) r.pa rfl
theorem clsv : ∀ ns : List String, Paired ClsV (ns.map V.ty) (ns.map Value.type)
  | [] => .nil
  | n :: ns => .cons (.ty n) (clsv ns)
theorem s_isiT {ns : List String} {ts : List Ty} {tp : Pos} {k : Nat} {as : List Expr} (hK : X.K = c.K) (hg : Gl X "isinstance") (hm : X.mg "isinstance" = none) (hT : TyNames X as ns) (ht : ts.mapM Ty.name? = some ns) (h0 : ns ≠ []) (hl : ns.length ≤ 1000)
    (hp : plainE a = true) (ha : PE X a (tE c W (ev R ia))) : PE X (.Call (.Name "isinstance" p) [a, .Tuple as k tp] [] pos) (tE c W (ev R (.isi ia false ts))) :=
  (pe_callB call_isiT hg hm rfl (pa2 hp ha rfl (pe_tup hT.pa)) (by decide) (by decide) (plain_star hp _ X.env) (any1 rfl)).weak fun σ H Q q => isi_ok q fun S e s m pl v b Rr rp hb p => by
    refine ⟨by rw [List.length_map, sizeLine_eq]; omega, fun ad nq => ?_⟩
    have hlv : (ns.map V.ty).length ≤ 16777216 := by rw [List.length_map]; omega
    have al : Al S (S.put ad (.tup (ns.map V.ty)) none) := Al.lay Rr.toRlS nq (.inl rfl) (HLo.tup hlv)
    have rp' : RepM c (S.put ad (.tup (ns.map V.ty)) none) pl m v := rp.step al.fr fun a ha => al.at Rr.dom ha
    have Rr' := al.rl Rr
    cases ts with
    | nil => cases ht; exact absurd rfl h0
    | cons t ts =>
      have hb' := hb
      rw [List.mapM_cons] at ht
      cases et : t.name? with
      | none => rw [et] at ht; cases ht
      | some n =>
        obtain ⟨b0, e0⟩ : ∃ b0, tyIs s m.frz t = some b0 := by
          unfold tyAny at hb'
          split at hb' <;> first | exact ⟨_, by assumption⟩ | cases hb'
        obtain ⟨ty, h1, h2⟩ := ty_of Rr'.toRlS rp'.view et e0
        rw [← hK] at h1
        refine ⟨v, ad, _, _, _, b, rfl, upd_same, clsv ns, h1, any_of (ts := t :: ts) h2 (by rw [List.mapM_cons]; exact ht) hb, ?_⟩
        exact end_val Rr' (PostG.shift Rr.toRlS (al.ste Rr.dom s) p) rfl
end
end OI

/-! OIl: what a def promises; a call of it. -/
namespace OI
open PySem PySem.Spec PyProof.Rows L2
variable {c : Cn}

/-- labels of no source are exchanged -/
structure Sim (S S' : Wd) : Prop where
  H : S'.H = S.H
  am : S'.am = S.am
  ow : ∀ a, S'.ow a = S.ow a ∨ ((∃ x, S.ow a = some x ∧ x.src = none) ∧ ∃ y, S'.ow a = some y ∧ y.src = none)
theorem Sim.fr {S S' : Wd} (h : Sim S S') : Fr S S' := ⟨fun a o h1 h2 => ⟨by rw [h.H]; exact h1, by
  rcases h.ow a with e | ⟨⟨x, e, _⟩, _⟩
  · rw [e]; exact h2
  · rw [h2] at e; cases e⟩, [], by rw [h.am, List.append_nil]⟩
theorem Sim.srcs {S S' : Wd} (h : Sim S S') {a : Addr} {q : Pl} {n : Nat} (h1 : S.ow a = some q) (h2 : q.src = some n) : S'.ow a = some q := by
  rcases h.ow a with e | ⟨⟨x, e, hx⟩, _⟩
  · rw [e]; exact h1
  · rw [h1] at e; cases e; rw [h2] at hx; cases hx
theorem Sim.srcs' {S S' : Wd} (h : Sim S S') {a : Addr} {q : Pl} {n : Nat} (h1 : S'.ow a = some q) (h2 : q.src = some n) : S.ow a = some q := by
  rcases h.ow a with e | ⟨_, y, e, hx⟩
  · rw [← e]; exact h1
  · rw [h1] at e; cases e; rw [h2] at hx; cases hx
theorem Sim.rls {S S' : Wd} {s : Store} (h : Sim S S') (R : RlS c S s) : RlS c S' s :=
  R.step h.fr (fun p q n h1 h2 => ⟨by rw [h.H], h.srcs h1 h2⟩) h.am (fun a ha => by
    rw [h.H]
    rcases h.ow a with e | ⟨⟨x, e, _⟩, _⟩
    · rw [e] at ha; exact R.dom a ha
    · exact R.dom a (by rw [e]; simp)) (fun a q n h1 h2 => R.src a q n (h.srcs' h1 h2) h2) (by rw [h.H]; exact R.hl)
theorem Sim.repM {S S' : Wd} (h : Sim S S') {pl : Pl} {m : M} {v : V} (r : RepM c S pl m v) (k : ∀ p, S.ow p = some pl → S'.ow p = some pl) : RepM c S' pl m v := r.step h.fr fun p hp => ⟨by rw [h.H], k p hp⟩

/-- no slot's -/
def NoSl (S : Wd) : Prop := ∀ a i, S.ow a ≠ some (.slot i)
/-- the slots' containers are others' now -/
def maskP (q : Option Pl) : Option Pl :=
  match q with
  | some (.slot _) => some .oth
  | x => x
def unmaskP (q r : Option Pl) : Option Pl :=
  match q with
  | some (.slot i) => some (.slot i)
  | _ => r
def Wd.mask (S : Wd) : Wd := { S with ow := fun a => maskP (S.ow a) }
/-- .. and are the slots' again -/
def Wd.unmask (S S' : Wd) : Wd := { S' with ow := fun a => unmaskP (S.ow a) (S'.ow a) }
theorem mask_slot {S : Wd} {a : Addr} {i : Nat} (h : S.ow a = some (.slot i)) : S.mask.ow a = some .oth := by
  show maskP (S.ow a) = _
  rw [h]
  rfl
theorem mask_ne {S : Wd} {a : Addr} (h : ∀ i, S.ow a ≠ some (.slot i)) : S.mask.ow a = S.ow a := by
  show maskP (S.ow a) = _
  unfold maskP
  split
  · rename_i i e; exact absurd e (h i)
  · rfl
theorem unmask_slot {S S' : Wd} {a : Addr} {i : Nat} (h : S.ow a = some (.slot i)) : (S.unmask S').ow a = some (.slot i) := by
  show unmaskP (S.ow a) _ = _
  rw [h]
  rfl
theorem unmask_ne {S S' : Wd} {a : Addr} (h : ∀ i, S.ow a ≠ some (.slot i)) : (S.unmask S').ow a = S'.ow a := by
  show unmaskP (S.ow a) _ = _
  unfold unmaskP
  split
  · rename_i i e; exact absurd e (h i)
  · rfl
theorem slot_or (S : Wd) (a : Addr) : (∃ i, S.ow a = some (.slot i)) ∨ ∀ i, S.ow a ≠ some (.slot i) := by
  by_cases h : ∃ i, S.ow a = some (.slot i)
  · exact .inl h
  · exact .inr fun i e => h ⟨i, e⟩
theorem mask_noSl (S : Wd) : NoSl S.mask := fun a i => by
  rcases slot_or S a with ⟨j, h⟩ | h
  · rw [mask_slot h]; simp
  · rw [mask_ne h]; exact h i
theorem mask_sim (S : Wd) : Sim S S.mask := ⟨rfl, rfl, fun a => by
  rcases slot_or S a with ⟨j, h⟩ | h
  · exact .inr ⟨⟨_, h, rfl⟩, _, mask_slot h, rfl⟩
  · exact .inl (mask_ne h)⟩
section
variable {S S' : Wd} {s s' : Store} {e : OI.Env} {σ : L2.St}
theorem unmask_sim (st : StC S.mask S' s s') : Sim S' (S.unmask S') := ⟨rfl, rfl, fun a => by
  rcases slot_or S a with ⟨j, h⟩ | h
  · exact .inr ⟨⟨_, (st.oth a (mask_slot h)).2, rfl⟩, _, unmask_slot h, rfl⟩
  · exact .inl (unmask_ne h)⟩
theorem unmask_ste (st : StC S.mask S' s s') : StE S (S.unmask S') s s' where
  keep := fun a o h1 h2 => by
    have ns : ∀ i, S.ow a ≠ some (.slot i) := fun i z => by rw [h2] at z; cases z
    obtain ⟨x, y⟩ := st.keep a o h1 (by rw [mask_ne ns]; exact h2)
    exact ⟨x, by rw [unmask_ne ns]; exact y⟩
  am := st.am
  ver := st.ver
  ent := fun n en h1 h2 a p hp hn => by
    have ns : ∀ i, S.ow a ≠ some (.slot i) := fun i z => by rw [hp] at z; cases z; cases hn
    obtain ⟨x, y⟩ := st.ent n en h1 h2 a p (by rw [mask_ne ns]; exact hp) hn
    exact ⟨x, by rw [unmask_ne ns]; exact y⟩
  oth := fun a hp => by
    have ns : ∀ i, S.ow a ≠ some (.slot i) := fun i z => by rw [hp] at z; cases z
    obtain ⟨x, y⟩ := st.oth a (by rw [mask_ne ns]; exact hp)
    exact ⟨x, by rw [unmask_ne ns]; exact y⟩
  slot := fun a i hp => ⟨(st.oth a (mask_slot hp)).1, .inl (unmask_slot hp)⟩
theorem unmask_rl (R : Rl c S e s σ) (R' : RlS c S' s') (st : StC S.mask S' s s') : Rl c (S.unmask S') e s' σ where
  toRlS := (unmask_sim st).rls R'
  elen := R.elen
  slot := fun i m h => by
    obtain ⟨v, h1, h2⟩ := R.slot i m h
    have u := unmask_ste st
    exact ⟨v, h1, h2.step u.toFr fun p hp => ⟨(u.slot p i hp).1, unmask_slot hp⟩⟩
theorem unmask_tmp (st : StC S.mask S' s s') {m : M} {v : V} (r : RepM c S' .tmp m v) : RepM c (S.unmask S') .tmp m v :=
  (unmask_sim st).repM r fun p hp => by
    rcases slot_or S p with ⟨j, h⟩ | h
    · rw [(st.oth p (mask_slot h)).2] at hp; cases hp
    · rw [unmask_ne h]; exact hp
end
/-- what became of a call, as the caller is told -/
def PostF (c : Cn) (S : Wd) (s : Store) (r : RR) (Q : VK) (E : XK) : Prop :=
  match r with
  | .ok m s' => ∀ S' v, RlS c S' s' → StC S S' s s' → NoSl S' → RepM c S' .tmp m v → Q v S'.H
  | .err k s' => ∀ S', RlS c S' s' → StC S S' s s' → NoSl S' → E (.ref (c.cls k)) none S'.H
  | .bad => False
/-- a def's promise: its run by OI -/
def spF (c : Cn) (R : Runs) (f : String) (np : Nat) : Sp := fun vs H Q E => ∃ S s ds, S.H = H ∧ RlS c S s ∧ NoSl S ∧ RepDs c S ds vs ∧ ds.length = np ∧ PostF c S s (R f ds s) Q E
section
variable {X : Cx} {W : WX} {R : Runs}
theorem call_of {f : String} {S : Wd} {s : Store} {e : OI.Env} {σ : L2.St} {ds : List D} {vs : List V} {Q : VK} (Rr : Rl c S e s σ) (r : RepDs c S ds vs) (p : PostG c W σ S s (callK R f ds e s) (rM c σ) Q) : spF c R f ds.length vs S.H Q (WE W σ) := by
  refine ⟨S.mask, s, ds, rfl, (mask_sim S).rls Rr.toRlS, mask_noSl S, r.mono (mask_sim S).fr, rfl, ?_⟩
  unfold callK at p
  cases h : R f ds s with
  | ok m s' =>
    rw [h] at p
    exact fun S' v R' st ns rp => p (S.unmask S') v (unmask_rl Rr R' st) (unmask_ste st) ⟨unmask_tmp st rp, trivial⟩
  | err k s' =>
    rw [h] at p
    exact fun S' R' st ns => p (S.unmask S') (unmask_rl Rr R' st) (unmask_ste st)
  | bad => rw [h] at p; exact p
/-- a def of the text, as a body may call it -/
structure FnI (X : Cx) (c : Cn) (R : Runs) (k : Nat) (f : String) (np : Nat) : Prop where
  some : ∃ fa fd ps, X.mg (Str.ofString f) = .some (.ref fa) ∧ PySem.W.keepIn X.K (.ref fa) = true ∧ Binds X.K fd ps [] ∧ ps.length = np ∧ FnOk X.prog X.w X.K X.mg X.base (L2.CX X.prog X.w) k fa fd ps (spF c R f np)
theorem any_plain {es : List Expr} {pos : Pos} (h : es.all plainE = true) : (backTo pos (starEach es X.env)).any (·.1) = false := by
  induction es with
  | nil => rfl
  | cons a r ih =>
    rw [List.all_cons, Bool.and_eq_true] at h
    rw [plain_star h.1]
    have := ih h.2
    unfold backTo at this ⊢
    rw [List.map_cons, List.any_cons, this]
    rfl
theorem s_call {f : String} {k np : Nat} {a : Expr} {as : List Expr} {ias : IEs} {p pos : Pos} (F : FnI X c R k f np) (hr : Room k X.A) (hg : Gl X (Str.ofString f)) (tk : Takes X W) (hn : ias.len = np) (ha : PA X (a :: as) (tA c W (evs R ias))) (hdb : (Str.ofString f == ("__debug__" : Str)) = false)
    (hp : (a :: as).all plainE = true) : PE X (.Call (.Name (Str.ofString f) p) (a :: as) [] pos) (tE c W (ev R (.call f ias))) := by
  obtain ⟨fa, fd, ps, h1, h2, h3, h4, h5⟩ := F.some
  rw [List.all_cons, Bool.and_eq_true] at hp
  exact (pe_callS h5 hr hg h1 h2 h3 (fun σ => passAt tk σ) ha hdb (plain_star hp.1 as X.env) (any_plain hp.2)).weak fun σ H Q q =>
    args_ok (k := callK R f) (rep := rM c) q fun S e s ds vs Rr r hl p => by
      have := call_of Rr r p
      rw [hl, hn] at this
      exact this
end
end OI

/-! OIm: statements: what a step of them keeps, their readings; assignments, returns, tests. -/
namespace OI
open PySem PySem.Spec PyProof.Rows L2

/-- a statement's step: the slots ws may be stored or changed -/
structure StS (ws : List Nat) (S S' : Wd) (s s' : Store) : Prop extends StC S S' s s' where
  slot : ∀ a i, i ∉ ws → S.ow a = some (.slot i) → S'.H a = S.H a ∧ (S'.ow a = some (.slot i) ∨ S'.ow a = none)
theorem StE.sts {S S' : Wd} {s s' : Store} (h : StE S S' s s') (ws : List Nat) : StS ws S S' s s' := ⟨h.toStC, fun a i _ => h.slot a i⟩
theorem StS.refl (ws : List Nat) (S : Wd) (s : Store) : StS ws S S s s := (StE.refl S s).sts ws
theorem StS.mono {ws ws' : List Nat} {S S' : Wd} {s s' : Store} (h : StS ws S S' s s') (k : ∀ i ∈ ws, i ∈ ws') : StS ws' S S' s s' := ⟨h.toStC, fun a i hi => h.slot a i fun z => hi (k i z)⟩
theorem StS.trans {ws : List Nat} {S S1 S2 : Wd} {s s1 s2 : Store} (dom : ∀ a, S.ow a ≠ none → S.H a ≠ none) (a : StS ws S S1 s s1) (b : StS ws S1 S2 s1 s2) : StS ws S S2 s s2 where
  toStC := a.toStC.trans b.toStC
  slot := fun p i hi hp => by
    obtain ⟨x1, x2⟩ := a.slot p i hi hp
    rcases x2 with x2 | x2
    · obtain ⟨y1, y2⟩ := b.slot p i hi x2
      exact ⟨y1.trans x1, y2⟩
    · cases e : S.H p with
      | none => exact absurd e (dom p (by rw [hp]; simp))
      | some o =>
        have h1 : S1.H p = some o := x1.trans e
        obtain ⟨y1, y2⟩ := b.keep p o h1 x2
        exact ⟨y1, .inr y2⟩

def PostS (c : Cn) (W : WX) (ws : List Nat) (S : Wd) (s : Store) (r : Res Flow) (D : Ends) : Prop :=
  match r with
  | .ok .nx e' s' => ∀ S' σ', Rl c S' e' s' σ' → StS ws S S' s s' → D.nx σ' S'.H
  | .ok (.ret m) _ s' => ∀ S' v, RlS c S' s' → StC S S' s s' → RepM c S' .tmp m v → D.rt v S'.H
  | .err k e' s' => ∀ S' σ', Rl c S' e' s' σ' → StS ws S S' s s' → W (.ref (c.cls k)) none σ' S'.H
  | .bad => False
def tS (c : Cn) (W : WX) (ws : List Nat) (f : OI.Env → Store → Res Flow) : TS := fun D σ H => ∃ S e s, S.H = H ∧ Rl c S e s σ ∧ PostS c W ws S s (f e s) D
theorem _root_.L2.PS.weak {X : Cx} {a : Stmt} {t u : TS} (h : PS X a u) (k : ∀ D σ H, t D σ H → u D σ H) : PS X a t := ⟨fun pins s σ H D I q => h.run pins s σ H D I (k D σ H q)⟩
theorem _root_.L2.PSs.weak {X : Cx} {a : List Stmt} {t u : TS} (h : PSs X a u) (k : ∀ D σ H, t D σ H → u D σ H) : PSs X a t := ⟨fun pins s σ H D I q => h.run pins s σ H D I (k D σ H q)⟩

section
variable {c : Cn} {W : WX} {ws : List Nat} {σ : L2.St} {S S1 : Wd} {s s1 : Store} {e : OI.Env} {D : Ends}
theorem PostS.shift {r : Res Flow} (R : RlS c S s) (st : StS ws S S1 s s1) (h : PostS c W ws S s r D) : PostS c W ws S1 s1 r D := by
  cases r with
  | ok f e' s' =>
    cases f with
    | nx => exact fun S' σ' R' st' => h S' σ' R' (st.trans R.dom st')
    | ret m => exact fun S' v R' st' rp => h S' v R' (st.toStC.trans st') rp
  | err k e' s' => exact fun S' σ' R' st' => h S' σ' R' (st.trans R.dom st')
  | bad => exact h
theorem PostS.mono {ws' : List Nat} {r : Res Flow} (h : PostS c W ws' S s r D) (k : ∀ i ∈ ws, i ∈ ws') : PostS c W ws S s r D := by
  cases r with
  | ok f e' s' =>
    cases f with
    | nx => exact fun S' σ' R' st' => h S' σ' R' (st'.mono k)
    | ret m => exact h
  | err k' e' s' => exact fun S' σ' R' st' => h S' σ' R' (st'.mono k)
  | bad => exact h
/-- an expression first, then the rest -/
theorem PostS.bindE {α β : Type} {r : Res α} {k : α → OI.Env → Store → Res Flow} {rep : Wd → Store → α → β → Prop} {G : β → Hp → Prop} (R : RlS c S s) (h : PostS c W ws S s (r.bind k) D)
    (g : ∀ x e1 s1 S1 y, r = .ok x e1 s1 → Rl c S1 e1 s1 σ → StE S S1 s s1 → rep S1 s1 x y → PostS c W ws S1 s1 (k x e1 s1) D → G y S1.H) : PostG c W σ S s r rep G := by
  cases r with
  | ok x e1 s1 => exact fun S1 y R1 st rp => g x e1 s1 S1 y rfl R1 st rp (PostS.shift R (st.sts ws) h)
  | err k' e1 s1 => exact fun S' R' st' => h S' σ R' (st'.sts ws)
  | bad => exact h
/-- a statement first, then the rest -/
theorem PostS.bindS {r : Res Flow} {k : OI.Env → Store → Res Flow} (R : RlS c S s) (h : PostS c W ws S s (r.bind fun f e s => match f with
      | .nx => k e s
      | .ret m => .ok (.ret m) e s) D) {N : L2.St → Hp → Prop} (g : ∀ e1 s1 S1 σ1, r = .ok .nx e1 s1 → Rl c S1 e1 s1 σ1 → StS ws S S1 s s1 → PostS c W ws S1 s1 (k e1 s1) D → N σ1 S1.H) : PostS c W ws S s r { D with nx := N } := by
  cases r with
  | ok f e1 s1 =>
    cases f with
    | nx => exact fun S1 σ1 R1 st => g e1 s1 S1 σ1 rfl R1 st (PostS.shift R st h)
    | ret m => exact h
  | err k' e1 s1 => exact h
  | bad => exact h
theorem vl_okS {x : M × Pl} {v : V} {k : M → OI.Env → Store → Res Flow} {G : Prop} (Rr : Rl c S e s σ) (rp : rM c σ S s x v)
    (h : PostS c W ws S s ((vl x.1 x.2 e s).bind k) D) (g : ∀ S1 m e1, Rl c S1 e1 s σ → StE S S1 s s → S1.H = S.H → RepM c S1 .tmp m v → PostS c W ws S1 s (k m e1 s) D → G) : G := by
  obtain ⟨m, pl⟩ := x
  obtain ⟨r1, r2⟩ := rp
  have other : ∀ (hm : m.isVal = false), G := fun hm => by
    dsimp only at h
    cases pl with
    | slot i =>
      have e0 : vl m (.slot i) e s = .ok (.val m.frz) (e.set i (some (.val m.frz))) s := by
        cases m <;> first | rfl | cases hm
      rw [e0] at h
      have hlt : i < e.length := by
        rw [Rr.elen]
        exact (List.getElem?_eq_some_iff.mp r2).1
      obtain ⟨S1, R1, hH, hd, st⟩ := Rr.frzSlot hm r2 r1 hlt
      exact g S1 (.val m.frz) _ R1 st hH hd (PostS.shift Rr.toRlS (st.sts ws) h)
    | tmp =>
      have e0 : vl m .tmp e s = .ok m e s := by
        cases m <;> first | rfl | cases hm
      rw [e0] at h
      exact g S m e Rr (StE.refl S s) rfl r1 h
    | fld n f =>
      have e0 : vl m (.fld n f) e s = .bad := by
        cases m <;> first | rfl | cases hm
      rw [e0] at h
      exact h.elim
    | obj n => exact r2.elim
    | oth => exact r2.elim
  cases m with
  | val d => exact g S (.val d) e Rr (StE.refl S s) rfl r1 h
  | ol xs => exact other rfl
  | od t kvs => exact other rfl
theorem valM_okS {fa : OI.Env → Store → Res (M × Pl)} {k : M → OI.Env → Store → Res Flow} {rest : V → Hp → Prop} (Rr : Rl c S e s σ)
    (h : PostS c W ws S s ((valM fa e s).bind k) D) (hr : ∀ S1 e1 s1 m v, Rl c S1 e1 s1 σ → StE S S1 s s1 → RepM c S1 .tmp m v → PostS c W ws S1 s1 (k m e1 s1) D → rest v S1.H) : tE c W fa σ S.H rest := by
  unfold valM at h
  rw [Res.bind_bind] at h
  refine ⟨S, e, s, rfl, Rr, PostS.bindE Rr.toRlS h fun x e1 s1 S1 v q1 R1 st1 rp1 p1 => ?_⟩
  refine vl_okS R1 rp1 p1 fun S2 m e2 R2 st2 hH rp2 p2 => ?_
  rw [← hH]
  exact hr S2 e2 s1 m v R2 (st1.trans Rr.dom st2) rp2 p2
theorem valD_okS {fa : OI.Env → Store → Res (M × Pl)} {k : OI.D → OI.Env → Store → Res Flow} {rest : V → Hp → Prop} (Rr : Rl c S e s σ)
    (h : PostS c W ws S s ((valD fa e s).bind k) D) (hr : ∀ S1 e1 s1 d v, Rl c S1 e1 s1 σ → StE S S1 s s1 → RepD c S1 d v → PostS c W ws S1 s1 (k d e1 s1) D → rest v S1.H) : tE c W fa σ S.H rest := by
  unfold valD at h
  rw [Res.bind_bind] at h
  refine ⟨S, e, s, rfl, Rr, PostS.bindE Rr.toRlS h fun x e1 s1 S1 v q1 R1 st1 rp1 p1 => ?_⟩
  rw [Res.bind_bind] at p1
  refine vl_okS R1 rp1 p1 fun S2 m e2 R2 st2 hH rp2 p2 => ?_
  obtain ⟨S3, R3, hH3, hd, st3⟩ := frz_ste R2 rp2
  rw [← hH, ← hH3]
  exact hr S3 e2 s1 m.frz v R3 ((st1.trans Rr.dom st2).trans Rr.dom st3) hd (PostS.shift R2.toRlS (st3.sts ws) p2)

/-! ### nothing was changed: the slots have their containers again -/
theorem restore {e1 : OI.Env} (R : Rl c S e s σ) (R1 : Rl c S1 e1 s σ) (st : StE S S1 s s) : Rl c (S.unmask S1) e s σ ∧ StE S (S.unmask S1) s s := by
  have ns : ∀ {a : Addr} {q : Option Pl}, S.ow a = q → (∀ i, q ≠ some (.slot i)) → ∀ i, S.ow a ≠ some (.slot i) := fun h1 h2 i z => h2 i (by rw [← h1]; exact z)
  have fr : Fr S (S.unmask S1) := ⟨fun a o h1 h2 => by
    obtain ⟨x, y⟩ := st.keep a o h1 h2
    exact ⟨x, by rw [unmask_ne (ns h2 (by simp))]; exact y⟩, st.am⟩
  have ste : StE S (S.unmask S1) s s := ⟨⟨fr, VerS.refl s, fun n en h1 h2 a p hp hn => by
      obtain ⟨x, y⟩ := st.ent n en h1 h2 a p hp hn
      exact ⟨x, by rw [unmask_ne (ns hp (fun i z => by cases z; cases hn))]; exact y⟩, fun a hp => by
      obtain ⟨x, y⟩ := st.oth a hp
      exact ⟨x, by rw [unmask_ne (ns hp (by simp))]; exact y⟩⟩, fun a i hp => ⟨(st.slot a i hp).1, .inl (unmask_slot hp)⟩⟩
  have am : (S.unmask S1).am = S.am := by
    show S1.am = S.am
    obtain ⟨more, em⟩ := st.am
    have h1 := R1.len
    have h2 := R.len
    rw [em, List.length_append] at h1
    have : more = [] := List.length_eq_zero_iff.mp (by omega)
    rw [em, this, List.append_nil]
  refine ⟨R.step fr (fun p q n hp hn => ?_) (fun p i hp => ⟨(st.slot p i hp).1, unmask_slot hp⟩) am (fun a ha => ?_) (fun a q n h1 h2 => ?_) R1.hl, ste⟩
  · have hlt := R.src p q n hp hn
    have he := List.getElem?_eq_getElem hlt
    obtain ⟨x, y⟩ := st.ent n _ he he p q hp hn
    exact ⟨x, by rw [unmask_ne (ns hp (fun i z => by cases z; cases hn))]; exact y⟩
  · show S1.H a ≠ none
    rcases slot_or S a with ⟨j, h⟩ | h
    · rw [(st.slot a j h).1]
      exact R.dom a (by rw [h]; simp)
    · rw [unmask_ne h] at ha
      exact R1.dom a ha
  · rcases slot_or S a with ⟨j, h⟩ | h
    · rw [unmask_slot h] at h1
      cases h1
      cases h2
    · rw [unmask_ne h] at h1
      exact R1.src a q n h1 h2
theorem flat_rep {pl pl' : Pl} {S' : Wd} {m : M} {v : V} (h : m.flat = true) (r : RepM c S pl m v) : RepM c S' pl' m v := by
  cases m with
  | val d => cases d <;> first | exact r | cases h
  | ol _ => cases h
  | od _ _ => cases h
/-- a statement's test -/
theorem test_okS {fa : OI.Env → Store → Res (M × Pl)} {k : Bool → OI.Env → Store → Res Flow} {rest : Bool → Hp → Prop} (Rr : Rl c S e s σ) (h : PostS c W ws S s ((testS fa e s).bind k) D)
    (hr : ∀ S1 e1 s1 b, Rl c S1 e1 s1 σ → StE S S1 s s1 → PostS c W ws S1 s1 (k b e1 s1) D → rest b S1.H) : tT c W fa σ S.H rest := by
  unfold testS at h
  rw [Res.bind_bind] at h
  refine ⟨S, e, s, rfl, Rr, PostS.bindE Rr.toRlS h fun b e1 s1 S1 b' q1 R1 st1 rp1 p1 => ?_⟩
  cases rp1
  have p1 : PostS c W ws S1 s1 (k b (if s1 = s then e else e1) s1) D := p1
  by_cases hs : s1 = s
  · subst hs
    rw [if_pos rfl] at p1
    obtain ⟨R2, st2⟩ := restore Rr R1 st1
    have h2 : PostS c W ws S s1 ((testB fa e s1).bind fun b e1 s2 => k b (if s2 = s1 then e else e1) s2) D := h
    rw [q1] at h2
    have h2 : PostS c W ws S s1 (k b (if s1 = s1 then e else e1) s1) D := h2
    rw [if_pos rfl] at h2
    exact hr (S.unmask S1) e s1 b R2 st2 (PostS.shift Rr.toRlS (st2.sts ws) h2)
  · rw [if_neg hs] at p1
    exact hr S1 e1 s1 b R1 st1 p1
end

/-! ### targets -/
section
variable {c : Cn} {S : Wd} {s : Store} {e : OI.Env} {σ : L2.St}
def gNames : List Nat → TGs
  | [] => gNil
  | i :: is => gCons (gName i) (gNames is)
def gT (K : PySem.W.Frag) : Tg → TG
  | .one i => gName i
  | .many is => gTup K is.length (gNames is)
/-- a slot is stored -/
theorem set_slot {i : Nat} {m : M} {v : V} (R : Rl c S e s σ) (hi : i < e.length) (r : RepM c S .tmp m v) : ∃ S', S'.H = S.H ∧ Rl c S' (e.set i (some m)) s (σ.set i (some v)) ∧ StS [i] S S' s s := by
  have main : ∀ S', S'.H = S.H → StS [i] S S' s s → RlS c S' s → (∀ j m w, RepM c S (.slot j) m w → RepM c S' (.slot j) m w) → RepM c S' (.slot i) m v → ∃ S', S'.H = S.H ∧ Rl c S' (e.set i (some m)) s (σ.set i (some v)) ∧ StS [i] S S' s s := fun S' hH st R' hj hm =>
    ⟨S', hH, ⟨R', by rw [List.length_set, List.length_set]; exact R.elen, fun j m' h => by
      by_cases z : i = j
      · subst z
        rw [List.getElem?_set_self hi] at h
        cases h
        exact ⟨v, by rw [List.getElem?_set_self (by rw [← R.elen]; exact hi)], hm⟩
      · rw [List.getElem?_set_ne z] at h
        obtain ⟨w, h1, h2⟩ := R.slot j m' h
        exact ⟨w, by rw [List.getElem?_set_ne z]; exact h1, hj j m' w h2⟩⟩, st⟩
  have lab : ∀ p, S.ow p = some .tmp → RepM c (S.lab p (some (.slot i))) (.slot i) m v → ∃ S', S'.H = S.H ∧ Rl c S' (e.set i (some m)) s (σ.set i (some v)) ∧ StS [i] S S' s s := fun p hp hm => by
    have R2 := lab_tmp (q := some (.slot i)) R hp
    exact main (S.lab p (some (.slot i))) rfl ((lab_ste hp).sts [i]) R2.toRlS (fun j m' w h => h.step (lab_fr (by rw [hp]; simp)) fun a ha => ⟨rfl, by rw [lab_ne (fun z => by subst z; rw [hp] at ha; cases ha)]; exact ha⟩) hm
  cases m with
  | val d => exact main S rfl (StS.refl _ _ _) R.toRlS (fun j m' w h => h) r
  | ol xs =>
    obtain ⟨p, vs, e1, h1, h2, h3⟩ := r
    exact lab p h2 ⟨p, vs, e1, h1, lab_same, h3.mono (lab_fr (by rw [h2]; simp))⟩
  | od t kvs =>
    obtain ⟨p, vs, e1, h1, h2, h3⟩ := r
    exact lab p h2 ⟨p, vs, e1, h1, lab_same, h3.mono (lab_fr (by rw [h2]; simp))⟩
theorem set_val {i : Nat} {d : D} {v : V} (R : Rl c S e s σ) (hi : i < e.length) (r : RepD c S d v) : Rl c S (e.set i (some (.val d))) s (σ.set i (some v)) where
  toRlS := R.toRlS
  elen := by rw [List.length_set, List.length_set]; exact R.elen
  slot := fun j m' h => by
    by_cases z : i = j
    · subst z
      rw [List.getElem?_set_self hi] at h
      cases h
      exact ⟨v, by rw [List.getElem?_set_self (by rw [← R.elen]; exact hi)], r⟩
    · rw [List.getElem?_set_ne z] at h
      obtain ⟨w, h1, h2⟩ := R.slot j m' h
      exact ⟨w, by rw [List.getElem?_set_ne z]; exact h1, h2⟩
theorem wipe_set {i : Nat} {v : Option V} : ∀ {own : List Nat} {σ : L2.St}, i ∈ own → L2.wipe (σ.set i v) own = L2.wipe σ own
  | j :: own, σ, h => by
    unfold L2.wipe
    have comm : ∀ {own : List Nat} {σ : L2.St}, L2.wipe (σ.set i v) own = (L2.wipe σ own).set i v ∨ L2.wipe (σ.set i v) own = L2.wipe σ own := by
      intro own
      induction own with
      | nil => intro σ; exact .inl rfl
      | cons k own ih =>
        intro σ
        unfold L2.wipe
        rcases @ih σ with e | e
        · rw [e]
          by_cases z : i = k
          · subst z
            right
            rw [List.set_set]
          · left
            rw [List.set_comm _ _ z]
        · rw [e]
          exact .inr rfl
    rcases comm (own := own) (σ := σ) with e | e
    · rw [e]
      by_cases z : i = j
      · subst z
        rw [List.set_set]
      · have hm : i ∈ own := by
          cases h with
          | head => exact absurd rfl z
          | tail _ h => exact h
        rw [wipe_set hm] at e
        rw [← e]
    · rw [e]
theorem names_ok {Q : L2.St → Hp → Prop} : ∀ {is : List Nat} {ds : List D} {vs : List V} {e e2 : OI.Env} {σ : L2.St}, Rl c S e s σ → RepDs c S ds vs → setNames is ds e = some e2 → (∀ σ', Rl c S e2 s σ' → (∀ own : List Nat, (∀ i ∈ is, i ∈ own) → L2.wipe σ' own = L2.wipe σ own) → Q σ' S.H) → vs.length = is.length ∧ gNames is vs σ S.H Q
  | [], ds, vs, e, e2, σ, R, r, h, q => by
    cases ds with
    | nil =>
      cases h
      have r : vs = [] := r
      subst r
      exact ⟨rfl, rfl, q σ R fun _ _ => rfl⟩
    | cons d ds => cases h
  | i :: is, ds, vs, e, e2, σ, R, r, h, q => by
    cases ds with
    | nil => cases h
    | cons d ds =>
      obtain ⟨v, w, rfl, r1, r2⟩ := r
      unfold setNames at h
      split at h
      · rename_i hi
        obtain ⟨hl, hq⟩ := names_ok (set_val R hi r1) r2 h fun σ' R' hw => q σ' R' fun own ho => by
          rw [hw own fun j hj => ho j (List.mem_cons_of_mem _ hj), wipe_set (ho i (List.mem_cons_self ..))]
        exact ⟨by rw [List.length_cons, hl, List.length_cons], v, w, rfl, hq⟩
      · cases h
theorem tg_ok {K : PySem.W.Frag} (hK : K = c.K) {t : Tg} {m : M} {v : V} {e2 : OI.Env} {Q : L2.St → Hp → Prop} (R : Rl c S e s σ) (r : RepM c S .tmp m v) (h : store t m e = some e2) (q : ∀ S' σ', S'.H = S.H → Rl c S' e2 s σ' → StS t.slots S S' s s → (∀ own : List Nat, (∀ i ∈ t.slots, i ∈ own) → L2.wipe σ' own = L2.wipe σ own) → Q σ' S'.H) : gT K t v σ S.H Q := by
  cases t with
  | one i =>
    unfold store at h
    dsimp only at h
    split at h
    · rename_i hi
      cases h
      obtain ⟨S', hH, R', st⟩ := set_slot R hi r
      have := q S' _ hH R' st fun own ho => wipe_set (ho i (List.mem_cons_self ..))
      rw [hH] at this
      exact this
    · cases h
  | many is =>
    unfold store at h
    dsimp only at h
    split at h
    · rename_i ds
      obtain ⟨p, vs, rfl, hf, rd⟩ := r
      obtain ⟨hl, hq⟩ := names_ok R rd h fun σ' R' hw => q S σ' rfl R' (StS.refl _ _ _) hw
      rw [hK]
      exact ⟨p, vs, rfl, hf.sq, hl, hq⟩
    · cases h
end
end OI

/-! OIn: the lifts of simple statements. -/
namespace OI
open PySem PySem.Spec PyProof.Rows L2
section
variable {c : Cn} {W : WX} {ws : List Nat} {σ : L2.St} {S S1 : Wd} {s s1 : Store} {e : OI.Env} {D : Ends}
theorem vl_cases {x : M × Pl} {v : V} (Rr : Rl c S e s σ) (rp : rM c σ S s x v) : vl x.1 x.2 e s = .bad ∨ ∃ S1 m e1, vl x.1 x.2 e s = .ok m e1 s ∧ Rl c S1 e1 s σ ∧ StE S S1 s s ∧ S1.H = S.H ∧ RepM c S1 .tmp m v := by
  obtain ⟨m, pl⟩ := x
  obtain ⟨r1, r2⟩ := rp
  have other : ∀ (hm : m.isVal = false), vl m pl e s = .bad ∨ ∃ S1 m' e1, vl m pl e s = .ok m' e1 s ∧ Rl c S1 e1 s σ ∧ StE S S1 s s ∧ S1.H = S.H ∧ RepM c S1 .tmp m' v := fun hm => by
    cases pl with
    | slot i =>
      have e0 : vl m (.slot i) e s = .ok (.val m.frz) (e.set i (some (.val m.frz))) s := by
        cases m <;> first | rfl | cases hm
      have hlt : i < e.length := by
        rw [Rr.elen]
        exact (List.getElem?_eq_some_iff.mp r2).1
      obtain ⟨S1, R1, hH, hd, st⟩ := Rr.frzSlot hm r2 r1 hlt
      exact .inr ⟨S1, _, _, e0, R1, st, hH, hd⟩
    | tmp =>
      have e0 : vl m .tmp e s = .ok m e s := by
        cases m <;> first | rfl | cases hm
      exact .inr ⟨S, m, e, e0, Rr, StE.refl S s, rfl, r1⟩
    | fld n f =>
      have e0 : vl m (.fld n f) e s = .bad := by
        cases m <;> first | rfl | cases hm
      exact .inl e0
    | obj n => exact r2.elim
    | oth => exact r2.elim
  cases m with
  | val d => exact .inr ⟨S, .val d, e, rfl, Rr, StE.refl S s, rfl, r1⟩
  | ol xs => exact other rfl
  | od t kvs => exact other rfl
theorem valM_full {fa : OI.Env → Store → Res (M × Pl)} {k : M → OI.Env → Store → Res Flow} {rest : V → Hp → Prop} (Rr : Rl c S e s σ)
    (h : PostS c W ws S s ((valM fa e s).bind k) D) (hr : ∀ S1 e1 s1 m v, Rl c S1 e1 s1 σ → StE S S1 s s1 → RepM c S1 .tmp m v → PostS c W ws S s (k m e1 s1) D → rest v S1.H) : tE c W fa σ S.H rest := by
  unfold valM at h
  rw [Res.bind_bind] at h
  refine ⟨S, e, s, rfl, Rr, PostS.bindE Rr.toRlS h fun x e1 s1 S1 v q1 R1 st1 rp1 p1 => ?_⟩
  rw [q1] at h
  have h : PostS c W ws S s ((vl x.1 x.2 e1 s1).bind k) D := h
  rcases vl_cases R1 rp1 with hb | ⟨S2, m, e2, he, R2, st2, hH, rp2⟩
  · rw [hb] at h
    exact h.elim
  · rw [he] at h
    rw [← hH]
    exact hr S2 e2 s1 m v R2 (st1.trans Rr.dom st2) rp2 h
end

section
variable {X : Cx} {c : Cn} {W : WX} {ws : List Nat} {R : Runs} {n : Nat} {pos : Pos}
theorem s_asg {t : Tg} {ia : IE} {st : Stmt} (hK : X.K = c.K) (hw : ∀ i ∈ t.slots, i ∈ ws) (h : PS X st (tAsg (tE c W (ev R ia)) (gT X.K t))) : PS X st (tS c W ws (exec R n (.asg t ia))) :=
  h.weak fun D σ H q => by
    obtain ⟨S, e, s, rfl, Rr, p⟩ := q
    refine valM_full Rr p fun S1 e1 s1 m v R1 st1 rp p1 => ?_
    split at p1
    · rename_i e2 he
      unfold keep at he
      split at he
      · rename_i hk
        obtain ⟨hf, rfl⟩ := hk
        obtain ⟨R2, st2⟩ := restore Rr R1 st1
        show gT X.K t v σ (S.unmask S1).H D.nx
        exact tg_ok hK R2 (flat_rep hf rp) he fun S' σ' hH R' st' _ => p1 S' σ' R' (((st2.sts ws).trans Rr.dom (st'.mono hw)))
      · exact tg_ok hK R1 rp he fun S' σ' hH R' st' _ => p1 S' σ' R' (((st1.sts ws).trans Rr.dom (st'.mono hw)))
    · exact p1.elim
theorem s_ret {a : Expr} {ia : IE} (ha : PE X a (tE c W (ev R ia))) : PS X (.Return (some a) pos) (tS c W ws (exec R n (.ret ia))) :=
  (ps_ret ha).weak fun D σ H q => by
    obtain ⟨S, e, s, rfl, Rr, p⟩ := q
    refine ⟨S, e, s, rfl, Rr, PostS.bindE Rr.toRlS p fun x e1 s1 S1 v q1 R1 st1 rp1 p1 => ?_⟩
    obtain ⟨m, pl⟩ := x
    obtain ⟨r1, r2⟩ := rp1
    unfold moved at p1
    dsimp only at p1 r1 r2
    have other : (∃ p, v = .ref p ∧ S1.ow p = some pl) → (∀ S2, Fr S1 S2 → S2.H = S1.H → (∀ p, S1.ow p = some pl → v = .ref p → S2.ow p = some .tmp) → RepM c S2 .tmp m v) → PostS c W ws S1 s1 (movedK m pl e1 s1) D → D.rt v S1.H := fun ⟨p, ev, ho⟩ hm hp => by
      cases pl with
      | slot i =>
        have fr : Fr S1 (S1.lab p (some .tmp)) := lab_fr (by rw [ho]; simp)
        have ne : ∀ {a : Addr} {x : Pl}, S1.ow a = some x → x ≠ .slot i → a ≠ p := fun h1 h2 z => by subst z; rw [ho] at h1; cases h1; exact h2 rfl
        have st : StC S1 (S1.lab p (some .tmp)) s1 s1 := ⟨fr, VerS.refl s1, fun n en _ _ a x hx hn => ⟨rfl, by rw [lab_ne (ne hx (fun z => by subst z; cases hn))]; exact hx⟩, fun a hx => ⟨rfl, by rw [lab_ne (ne hx (by simp))]; exact hx⟩⟩
        have R2 : RlS c (S1.lab p (some .tmp)) s1 := R1.toRlS.step fr (fun a x n hx hn => ⟨rfl, by rw [lab_ne (ne hx (fun z => by subst z; cases hn))]; exact hx⟩) rfl (lab_dom R1.dom (by rw [ho]; simp)) (lab_src R1.src (by intro x hx; cases hx; rfl)) R1.hl
        exact hp (S1.lab p (some .tmp)) v R2 st (hm _ fr rfl fun p' h1 h2 => by
          have : p' = p := by rw [ev] at h2; cases h2; rfl
          subst this
          exact lab_same)
      | tmp => exact hp S1 v R1.toRlS (StC.refl S1 s1) (hm _ (Fr.refl S1) rfl fun p' h1 _ => h1)
      | _ => exact hp.elim
    cases m with
    | val d => exact p1 S1 v R1.toRlS (StC.refl S1 s1) r1
    | ol xs =>
      obtain ⟨p, vs, ev, h1, h2, h3⟩ := r1
      exact other ⟨p, ev, h2⟩ (fun S2 f hH k => ⟨p, vs, ev, by rw [hH]; exact h1, k p h2 ev, h3.mono f⟩) p1
    | od t kvs =>
      obtain ⟨p, vs, ev, h1, h2, h3⟩ := r1
      exact other ⟨p, ev, h2⟩ (fun S2 f hH k => ⟨p, vs, ev, by rw [hH]; exact h1, k p h2 ev, h3.mono f⟩) p1
theorem s_ifs {t : Expr} {it : IE} {as bs : List Stmt} {ia ib : ISs} (ht : PT X t (tT c W (ev R it))) (ha : PSs X as (tS c W ws (execs R n ia))) (hb : PSs X bs (tS c W ws (execs R n ib))) : PS X (.If t as bs pos) (tS c W ws (exec R n (.ifs it ia ib))) :=
  (ps_if ht ha hb).weak fun D σ H q => by
    obtain ⟨S, e, s, rfl, Rr, p⟩ := q
    exact test_okS (k := fun k e1 s1 => if k then execs R n ia e1 s1 else execs R n ib e1 s1) Rr p fun S1 e1 s1 b R1 st1 p1 => by
      cases b with
      | true => exact ⟨S1, e1, s1, rfl, R1, p1⟩
      | false => exact ⟨S1, e1, s1, rfl, R1, p1⟩
/-- a suite as it is written: one that is empty is none of the text's -/
theorem s_expr {a : Expr} {ia : IE} (hs : ∀ l, swapsWith a none l X.env = pure false) (ha : PE X a (tE c W (ev R ia))) : PS X (.Expr a pos) (tS c W ws (exec R n (.expr ia))) :=
  (ps_expr ha (hs _)).weak fun D σ H q => by
    obtain ⟨S, e, s, rfl, Rr, p⟩ := q
    refine valM_full (k := fun _ e1 s1 => .ok .nx (if s1 = s then e else e1) s1) Rr p fun S1 e1 s1 m v R1 st1 rp p1 => ?_
    by_cases hs : s1 = s
    · subst hs
      rw [if_pos rfl] at p1
      obtain ⟨R2, st2⟩ := restore Rr R1 st1
      exact p1 (S.unmask S1) σ R2 (st2.sts ws)
    · rw [if_neg hs] at p1
      exact p1 S1 σ R1 (st1.sts ws)
theorem s_pass : PS X (.Pass pos) (tS c W ws (exec R n .pass)) :=
  ps_pass.weak fun D σ H q => by
    obtain ⟨S, e, s, rfl, Rr, p⟩ := q
    exact p S σ Rr (StS.refl ws S s)
theorem s_snil : PSs X [] (tS c W ws (execs R n .nil)) :=
  pss_nil.weak fun D σ H q => by
    obtain ⟨S, e, s, rfl, Rr, p⟩ := q
    exact p S σ Rr (StS.refl ws S s)
theorem s_scons {a : Stmt} {as : List Stmt} {ia : IS} {ias : ISs} (ha : PS X a (tS c W ws (exec R n ia))) (hr : PSs X as (tS c W ws (execs R n ias))) : PSs X (a :: as) (tS c W ws (execs R n (.cons ia ias))) :=
  (pss_cons ha hr).weak fun D σ H q => by
    obtain ⟨S, e, s, rfl, Rr, p⟩ := q
    exact ⟨S, e, s, rfl, Rr, PostS.bindS Rr.toRlS p fun e1 s1 S1 σ1 q1 R1 st1 p1 => ⟨S1, e1, s1, rfl, R1, p1⟩⟩
end
end OI

/-! OIo: containers changed in their place. -/
namespace OI
open PySem PySem.Spec PyProof.Rows L2

theorem ofString_inj {a b : String} (h : Str.ofString a = Str.ofString b) : a = b := by
  rw [Str.ofString_eq_toList, Str.ofString_eq_toList] at h
  have h1 : a.toList.map Char.toNat = b.toList.map Char.toNat := by
    have := congrArg (fun z : Str => z.cps.toList) h
    simpa using this
  have h2 : a.toList = b.toList := by
    have inj : Function.Injective Char.toNat := fun x y e => Char.toNat_inj.mp e
    exact (List.map_inj_right (fun x y e => inj e)).mp h1
  exact String.ext h2

section
variable {c : Cn} {S S' : Wd} {s s' : Store} {e : OI.Env} {σ : L2.St}
theorem RepF.get {n : Nat} {f : String} {m : M} : ∀ {fs : List (String × M)} {gs : List (Str × V)}, RepF c S n fs gs → fldGet fs f = some m → ∃ v, gs.lookup (Str.ofString f) = some v ∧ RepM c S (.fld n f) m v
  | [], _, _, h => by cases h
  | (g, m') :: r, _, ⟨v, q, e, h1, h2⟩, h => by
    subst e
    by_cases z : g = f
    · subst z
      have : fldGet ((g, m') :: r) g = some m' := by simp [fldGet]
      rw [this] at h
      cases h
      exact ⟨v, by simp [List.lookup], h1⟩
    · have e1 : fldGet ((g, m') :: r) f = fldGet r f := by simp [fldGet, z]
      rw [e1] at h
      obtain ⟨v', h3, h4⟩ := RepF.get h2 h
      refine ⟨v', ?_, h4⟩
      have hne : (Str.ofString f == Str.ofString g) = false := beq_eq_false_iff_ne.mpr fun w => z (ofString_inj w).symm
      rw [List.lookup_cons, hne]
      exact h3
/-- the places in slots -/
def Pl.sl : Pl → List Nat
  | .slot i => [i]
  | _ => []
/-- where the content of a place stands -/
def AtP (c : Cn) (S : Wd) (e : OI.Env) (s : Store) (σ : L2.St) (p : Pl) (m : M) (a : Addr) : Prop :=
  match p with
  | .slot i => e[i]? = some (some m) ∧ σ[i]? = some (some (.ref a))
  | .fld n f => ∃ C fs w b k dx gs, s[n]? = some ⟨.ins C fs, w⟩ ∧ fldGet fs f = some m ∧ S.am[n]? = some b ∧ S.H b = some (.ins k dx gs) ∧ gs.lookup (Str.ofString f) = some (.ref a)
  | .obj n => S.am[n]? = some a
  | _ => False
structure Here (c : Cn) (S : Wd) (e : OI.Env) (s : Store) (σ : L2.St) (p : Pl) (m : M) (a : Addr) : Prop where
  con : RepM c S p m (.ref a)
  ow : S.ow a = some p
  place : AtP c S e s σ p m a
theorem RepM.refs {pl : Pl} {m : M} {v : V} (hm : m.isVal = false) (r : RepM c S pl m v) : ∃ a, v = .ref a ∧ S.ow a = some pl := by
  cases m with
  | val d => cases hm
  | ol xs => obtain ⟨p, vs, e1, h1, h2, h3⟩ := r; exact ⟨p, e1, h2⟩
  | od t kvs => obtain ⟨p, vs, e1, h1, h2, h3⟩ := r; exact ⟨p, e1, h2⟩
theorem curr_ok {m1 m : M} {pl p : Pl} {v : V} {S1 S2 : Wd} {s1 s2 : Store} {e1 e2 : OI.Env} (R1 : Rl c S1 e1 s1 σ) (rp : RepM c S1 pl m1 v) (po : PlOk σ S1 pl v) (st : StE S1 S2 s1 s2) (R2 : Rl c S2 e2 s2 σ)
    {sl : List Nat} (hh : hold sl m1 pl = some p) (hs : same p.fsrc s1 s2 = true) (hc : curr p e2 s2 = some m) (hm : m.isVal = false) : ∃ a, v = .ref a ∧ Here c S2 e2 s2 σ p m a ∧ ∀ i ∈ p.sl, i ∈ sl := by
  have other : m1.isVal = false → holdK sl pl = some p → ∃ a, v = .ref a ∧ Here c S2 e2 s2 σ p m a ∧ ∀ i ∈ p.sl, i ∈ sl := fun hm1 hh => by
    obtain ⟨a, ev, ho⟩ := RepM.refs hm1 rp
    cases pl with
    | slot i =>
      unfold holdK at hh
      dsimp only at hh
      split at hh <;> cases hh
      rename_i hsl
      have po : σ[i]? = some (some v) := po
      unfold curr at hc
      dsimp only at hc
      split at hc
      · rename_i m2 he
        cases hc
        obtain ⟨v2, h1, h2⟩ := R2.slot i _ he
        rw [po] at h1
        cases h1
        obtain ⟨a2, ev2, ho2⟩ := h2.refs hm
        rw [ev2] at ev
        cases ev
        subst ev2
        exact ⟨a, rfl, ⟨h2, ho2, he, po⟩, fun j hj => by cases hj with | head => exact hsl | tail _ z => cases z⟩
      · cases hc
    | fld n f =>
      cases hh
      obtain ⟨b, C, dx, gs, hb, hB, hl⟩ := po
      have hs : s1[n]? = s2[n]? := of_decide_eq_true hs
      unfold curr at hc
      dsimp only at hc
      split at hc
      · rename_i C2 fs w he
        obtain ⟨b1, h1, h2, h3⟩ := R1.obj n _ (hs.trans he)
        rw [hb] at h1
        cases h1
        obtain ⟨b2, h4, h5, dx2, gs2, h6, h7, _⟩ := R2.obj n _ he
        rw [st.toFr.amAt hb] at h4
        cases h4
        have h8 := (st.ent n _ (hs.trans he) he b _ h2 rfl).1
        rw [h6, hB] at h8
        cases h8
        obtain ⟨v2, h9, h10⟩ := h7.get hc
        rw [hl] at h9
        cases h9
        obtain ⟨a2, ev2, ho2⟩ := h10.refs hm
        rw [ev2] at ev
        cases ev
        subst ev2
        exact ⟨a, rfl, ⟨h10, ho2, _, _, _, _, _, _, _, he, hc, st.toFr.amAt hb, h6, hl⟩, fun j hj => by cases hj⟩
      · cases hc
    | tmp => cases hh
    | obj n => cases hh
    | oth => cases hh
  cases m1 with
  | val d =>
    cases d with
    | loc n =>
      cases hh
      obtain ⟨a, ev, ha⟩ := rp
      have ha2 := st.toFr.amAt ha
      refine ⟨a, ev, ?_⟩
      unfold curr at hc
      dsimp only at hc
      split at hc
      · rename_i xs w he
        cases hc
        obtain ⟨h0, vs, h1, h2⟩ := Rl.locs R2.toRlS ha2 he
        exact ⟨⟨⟨a, vs, rfl, h1, h0, h2⟩, h0, ha2⟩, fun j hj => by cases hj⟩
      · rename_i t kvs w he
        cases hc
        obtain ⟨h0, vs, h1, h2⟩ := Rl.locs R2.toRlS ha2 he
        exact ⟨⟨⟨a, vs, rfl, h1, h0, h2⟩, h0, ha2⟩, fun j hj => by cases hj⟩
      · cases hc
    | _ => cases hh
  | ol xs => exact other rfl hh
  | od t kvs => exact other rfl hh
/-- another content at the place -/
theorem RepF.put {n : Nat} {f : String} {m : M} {a : Addr} (fr : Fr S S') (k : ∀ b g, S.ow b = some (.fld n g) → g ≠ f → S'.H b = S.H b ∧ S'.ow b = some (.fld n g)) (hm : RepM c S' (.fld n f) m (.ref a)) : ∀ {fs : List (String × M)} {gs : List (Str × V)}, (fs.map (·.1)).Nodup → RepF c S n fs gs → gs.lookup (Str.ofString f) = some (.ref a) →
    RepF c S' n (fldPut fs f m) gs
  | [], gs, _, h, hl => by
    rw [show gs = [] from h] at hl
    cases hl
  | (g, m') :: r, gs, nd, ⟨w, q, e, h1, h2⟩, hl => by
    subst e
    rw [List.map_cons, List.nodup_cons] at nd
    unfold fldPut
    by_cases z : g = f
    · subst z
      rw [if_pos (by simp)]
      rw [List.lookup_cons, beq_self_eq_true] at hl
      cases hl
      have keepAll : ∀ {fs : List (String × M)} {gs : List (Str × V)}, g ∉ fs.map (·.1) → RepF c S n fs gs → RepF c S' n fs gs := by
        intro fs
        induction fs with
        | nil => exact fun _ h => h
        | cons p r ih =>
          obtain ⟨g', m2⟩ := p
          intro gs hg ⟨w', q', e', h3, h4⟩
          rw [List.map_cons, List.mem_cons, not_or] at hg
          exact ⟨w', q', e', h3.step fr (fun b hb => k b g' hb (fun z => hg.1 z.symm)), ih hg.2 h4⟩
      exact ⟨_, _, rfl, hm, keepAll nd.1 h2⟩
    · rw [if_neg (by simpa using z)]
      have hne : (Str.ofString f == Str.ofString g) = false := beq_eq_false_iff_ne.mpr fun w => z (ofString_inj w).symm
      rw [List.lookup_cons, hne] at hl
      exact ⟨w, q, rfl, h1.step fr (fun b hb => k b g hb z), RepF.put fr k hm nd.2 h2 hl⟩
theorem fldPut_names {f : String} {m : M} : ∀ {fs : List (String × M)} {m' : M}, fldGet fs f = some m' → (fldPut fs f m).map (·.1) = fs.map (·.1)
  | [], _, h => by cases h
  | (g, w) :: r, m', h => by
    unfold fldPut
    by_cases z : g = f
    · subst z
      rw [if_pos (by simp)]
      rfl
    · rw [if_neg (by simpa using z)]
      have e1 : fldGet ((g, w) :: r) f = fldGet r f := by simp [fldGet, z]
      rw [e1] at h
      rw [List.map_cons, List.map_cons, fldPut_names h]
def Wd.upd (S : Wd) (a : Addr) (o : HO) : Wd := { S with H := L2.upd S.H a o }
/-- the content at a place is exchanged -/
theorem put_ok {p : Pl} {m m' : M} {a : Addr} {o : HO} {e' : OI.Env} {s' : Store} (R : Rl c S e s σ) (h : Here c S e s σ p m a) (ho : HLo o) (hcon : ∀ S' pl, S'.H a = some o → S'.ow a = some pl → Fr S S' → RepM c S' pl m' (.ref a)) (hp : put p m' e s = some (e', s')) :
    Rl c (S.upd a o) e' s' σ ∧ StS p.sl S (S.upd a o) s s' := by
  have hH : ∀ {b : Addr}, b ≠ a → (S.upd a o).H b = S.H b := fun hb => upd_ne hb
  have hHa : (S.upd a o).H a = some o := upd_same
  have ne : ∀ {b : Addr} {q : Pl}, S.ow b = some q → q ≠ p → b ≠ a := fun h1 h2 z => by subst z; rw [h.ow] at h1; cases h1; exact h2 rfl
  have fr : Fr S (S.upd a o) := ⟨fun b u h1 h2 => ⟨by rw [hH (fun z => by subst z; rw [h.ow] at h2; cases h2)]; exact h1, h2⟩, [], by simp [Wd.upd]⟩
  have con : RepM c (S.upd a o) p m' (.ref a) := hcon _ _ hHa h.ow fr
  have dom : ∀ b, (S.upd a o).ow b ≠ none → (S.upd a o).H b ≠ none := fun b hb => by
    by_cases z : b = a
    · subst z; rw [hHa]; simp
    · rw [hH z]; exact R.dom b hb
  have hl : HL (S.upd a o).H := R.hl.put ho
  have place := h.place
  -- where the store's entries stay as they are
  have stay : (∀ n, p.src ≠ some n) → RlS c (S.upd a o) s := fun hn => R.toRlS.step fr (fun b q n h1 h2 => ⟨hH (ne h1 fun z => by subst z; exact hn n h2), h1⟩) rfl dom R.src hl
  have slots : ∀ {e2 : OI.Env}, (∀ i m2, e2[i]? = some (some m2) → (p ≠ .slot i ∧ e[i]? = some (some m2)) ∨ (p = .slot i ∧ m2 = m' ∧ σ[i]? = some (some (.ref a)))) → ∀ i m2, e2[i]? = some (some m2) → ∃ v, σ[i]? = some (some v) ∧ RepM c (S.upd a o) (.slot i) m2 v := fun hk i m2 h2 => by
    rcases hk i m2 h2 with ⟨k1, k2⟩ | ⟨k1, k2, k3⟩
    · obtain ⟨v, x1, x2⟩ := R.slot i m2 k2
      exact ⟨v, x1, x2.step fr fun b hb => ⟨hH (ne hb fun z => k1 z.symm), hb⟩⟩
    · subst k2
      rw [k1] at con
      exact ⟨_, k3, con⟩
  have sls : ∀ (ws : List Nat), (∀ i, p = .slot i → i ∈ ws) → ∀ b i, i ∉ ws → S.ow b = some (.slot i) → (S.upd a o).H b = S.H b ∧ ((S.upd a o).ow b = some (.slot i) ∨ (S.upd a o).ow b = none) := fun ws hw b i hi hb => ⟨hH (ne hb fun z => hi (hw i z.symm)), .inl hb⟩
  cases p with
  | slot i =>
    cases hp
    obtain ⟨p1, p2⟩ := place
    have hlt := (List.getElem?_eq_some_iff.mp p1).1
    refine ⟨⟨stay (fun n z => nomatch z), by rw [List.length_set]; exact R.elen, slots fun j m2 h2 => ?_⟩, ⟨⟨fr, VerS.refl s, fun n en _ _ b q hb hq => ⟨hH (ne hb fun z => by subst z; cases hq), hb⟩, fun b hb => ⟨hH (ne hb fun z => nomatch z), hb⟩⟩, sls [i] fun j hj => by cases hj; simp⟩⟩
    by_cases z : i = j
    · subst z
      rw [List.getElem?_set_self hlt] at h2
      cases h2
      exact .inr ⟨rfl, rfl, p2⟩
    · rw [List.getElem?_set_ne z] at h2
      exact .inl ⟨fun w => z (by cases w; rfl), h2⟩
  | tmp => exact place.elim
  | oth => exact place.elim
  | fld n f =>
    obtain ⟨C, fs, w, b0, k0, dx0, gs0, hs, hg, q1, q2, q3⟩ := place
    unfold OI.put at hp
    dsimp only at hp
    rw [hs] at hp
    cases hp
    have hlt := (List.getElem?_eq_some_iff.mp hs).1
    refine ⟨⟨⟨by rw [List.length_set]; exact R.len, fun k en hk => ?_, dom, fun b q k h1 h2 => by rw [List.length_set]; exact R.src b q k h1 h2, hl⟩, R.elen, slots fun j m2 h2 => .inl ⟨fun z => (nomatch z), h2⟩⟩, ⟨⟨fr, fun k en hk => ?_, fun k en h1 h2 b q hb hq => ?_, fun b hb => ⟨hH (ne hb fun z => nomatch z), hb⟩⟩, sls [] fun j hj => nomatch hj⟩⟩
    · by_cases z : n = k
      · subst z
        rw [List.getElem?_set_self hlt] at hk
        cases hk
        obtain ⟨b, h1, h2, dx, gs, h3, h4, h5⟩ := R.obj n _ hs
        have hba : b ≠ a := ne h2 fun z => nomatch z
        obtain ⟨v2, x1, x2⟩ := h4.get hg
        have ev : v2 = .ref a := by
          rw [h1] at q1
          cases q1
          rw [h3] at q2
          cases q2
          rw [x1] at q3
          exact Option.some.inj q3
        subst ev
        refine ⟨b, h1, h2, dx, gs, (hH hba).trans h3, RepF.put fr (fun b' g hb' hg' => ⟨hH (ne hb' fun z => hg' (by cases z; rfl)), hb'⟩) con h5 h4 x1, ?_⟩
        rw [fldPut_names hg]
        exact h5
      · rw [List.getElem?_set_ne z] at hk
        obtain ⟨b, h1, h2, h3⟩ := R.obj k en hk
        exact ⟨b, h1, h2, h3.step fr (hH (ne h2 fun w => nomatch w)) fun b' g hb' => ⟨hH (ne hb' fun w => z (by cases w; rfl)), hb'⟩⟩
    · by_cases z : n = k
      · subst z
        rw [hs] at hk
        cases hk
        exact ⟨_, List.getElem?_set_self hlt, Nat.le_succ _, fun e => absurd e (Nat.ne_of_lt (Nat.lt_succ_self w))⟩
      · exact ⟨en, by rw [List.getElem?_set_ne z]; exact hk, Nat.le_refl _, fun _ => rfl⟩
    · by_cases z : n = k
      · subst z
        rw [hs] at h1
        cases h1
        rw [List.getElem?_set_self hlt] at h2
        have h2 := congrArg Ent.v (Option.some.inj h2)
        exact absurd h2 (Nat.ne_of_gt (Nat.lt_succ_self w))
      · exact ⟨hH (ne hb fun w => z (by subst w; cases hq; rfl)), hb⟩
  | obj n =>
    have hc : ∃ o2 w w', s[n]? = some ⟨o2, w⟩ ∧ s' = s.set n ⟨w', w + 1⟩ ∧ e' = e ∧ ∀ b, (S.upd a o).ow b = some (.obj n) → RepM c (S.upd a o) (.obj n) m' (.ref b) → RepO c (S.upd a o) n b w' := by
      unfold OI.put at hp
      dsimp only at hp
      split at hp
      · rename_i xs w ys he
        cases hp
        exact ⟨_, w, _, he, rfl, rfl, fun b _ ⟨p, vs, e1, h1, _, h3⟩ => by cases e1; exact ⟨vs, h1, h3⟩⟩
      · rename_i t' ks w t2 ys he
        cases hp
        exact ⟨_, w, _, he, rfl, rfl, fun b _ ⟨p, vs, e1, h1, _, h3⟩ => by cases e1; exact ⟨vs, h1, h3⟩⟩
      · cases hp
    obtain ⟨o2, w, w', hs, rfl, rfl, hrep⟩ := hc
    have hlt := (List.getElem?_eq_some_iff.mp hs).1
    refine ⟨⟨⟨by rw [List.length_set]; exact R.len, fun k en hk => ?_, dom, fun b q k h1 h2 => by rw [List.length_set]; exact R.src b q k h1 h2, hl⟩, R.elen, slots fun j m2 h2 => .inl ⟨fun z => (nomatch z), h2⟩⟩, ⟨⟨fr, fun k en hk => ?_, fun k en h1 h2 b q hb hq => ?_, fun b hb => ⟨hH (ne hb fun z => nomatch z), hb⟩⟩, sls [] fun j hj => nomatch hj⟩⟩
    · by_cases z : n = k
      · subst z
        rw [List.getElem?_set_self hlt] at hk
        cases hk
        exact ⟨a, place, h.ow, hrep a h.ow con⟩
      · rw [List.getElem?_set_ne z] at hk
        obtain ⟨b, h1, h2, h3⟩ := R.obj k en hk
        exact ⟨b, h1, h2, h3.step fr (hH (ne h2 fun w => z (by cases w; rfl))) fun b' g hb' => ⟨hH (ne hb' fun w => nomatch w), hb'⟩⟩
    · by_cases z : n = k
      · subst z
        rw [hs] at hk
        cases hk
        exact ⟨_, List.getElem?_set_self hlt, Nat.le_succ _, fun e => absurd e (Nat.ne_of_lt (Nat.lt_succ_self w))⟩
      · exact ⟨en, by rw [List.getElem?_set_ne z]; exact hk, Nat.le_refl _, fun _ => rfl⟩
    · by_cases z : n = k
      · subst z
        rw [hs] at h1
        cases h1
        rw [List.getElem?_set_self hlt] at h2
        have h2 := congrArg Ent.v (Option.some.inj h2)
        exact absurd h2 (Nat.ne_of_gt (Nat.lt_succ_self w))
      · exact ⟨hH (ne hb fun w => z (by subst w; cases hq; rfl)), hb⟩
end
end OI

/-! OIp: append, extend, clear, reverse, o[i] = v. -/
namespace OI
open PySem PySem.Spec PyProof.Rows L2
section
variable {c : Cn} {W : WX} {ws : List Nat} {σ : L2.St} {S1 S1' S2 : Wd} {s1 s2 : Store} {e1 e2 : OI.Env} {D : Ends} {x : M × Pl} {v : V}
/-- how a thing waits -/
def Pended (S1 S1' : Wd) (x : M × Pl) (v : V) : Prop := (S1' = S1 ∧ (x.2 ≠ .tmp ∨ x.1.isVal = true)) ∨ (x.2 = .tmp ∧ x.1.isVal = false ∧ ∃ a, v = .ref a ∧ S1.ow a = some .tmp ∧ S1' = S1.lab a (some .oth))
theorem pend2 (R1 : Rl c S1 e1 s1 σ) (rp : rM c σ S1 s1 x v) : ∃ S1', Pended S1 S1' x v ∧ Rl c S1' e1 s1 σ ∧ S1'.H = S1.H ∧ StE S1 S1' s1 s1 := by
  obtain ⟨m, pl⟩ := x
  by_cases hm : m.isVal = true
  · exact ⟨S1, .inl ⟨rfl, .inr hm⟩, R1, rfl, StE.refl _ _⟩
  · have hm : m.isVal = false := by simpa using hm
    by_cases hp : pl = .tmp
    · subst hp
      obtain ⟨a, ev, ho⟩ := RepM.refs hm rp.1
      exact ⟨S1.lab a (some .oth), .inr ⟨rfl, hm, a, ev, ho, rfl⟩, lab_tmp R1 ho, rfl, lab_ste ho⟩
    · exact ⟨S1, .inl ⟨rfl, .inl hp⟩, R1, rfl, StE.refl _ _⟩
/-- a place's content is exchanged: what the machine's rule is to do -/
theorem at_ok {sl : List Nat} {f : M → Option M} (R1 : Rl c S1 e1 s1 σ) (rp : rM c σ S1 s1 x v) (hk : Pended S1 S1' x v) (st : StE S1' S2 s1 s2) (R2 : Rl c S2 e2 s2 σ) (p : PostS c W ws S1 s1 (atK sl x s1 f e2 s2) D) (hf : ∀ d, f (.val d) = none) (hsl : ∀ i ∈ sl, i ∈ ws) :
    ∃ a m m', v = .ref a ∧ RepV c S2 m v ∧ f m = some m' ∧ ∀ o, HLo o → (∀ S' pl, S'.H a = some o → S'.ow a = some pl → Fr S2 S' → RepM c S' pl m' (.ref a)) → D.nx σ (L2.upd S2.H a o) := by
  unfold atK at p
  split at p
  · rename_i q hq
    have hS : S1' = S1 := by
      rcases hk with ⟨h, _⟩ | ⟨h1, h2, _⟩
      · exact h
      · exfalso
        obtain ⟨m, pl⟩ := x
        dsimp only at h1 h2 hq
        subst h1
        cases m with
        | val d => cases h2
        | ol xs => exact absurd hq (by simp [hold, holdK])
        | od t kvs => exact absurd hq (by simp [hold, holdK])
    subst hS
    split at p
    · rename_i hs
      split at p
      · rename_i m hc
        unfold pushPl at p
        split at p
        · rename_i m' hm
          have hv : m.isVal = false := by
            cases m with
            | val d => rw [hf d] at hm; cases hm
            | _ => rfl
          split at p
          · rename_i e3 s3 hp
            obtain ⟨a, ev, h, hi⟩ := curr_ok R1 rp.1 rp.2 st R2 hq hs hc hv
            subst ev
            refine ⟨a, m, m', rfl, h.con.view, hm, fun o ho hcon => ?_⟩
            obtain ⟨R3, st3⟩ := put_ok R2 h ho hcon hp
            exact p _ σ R3 ((st.sts ws).trans R1.dom (st3.mono fun i hj => hsl i (hi i hj)))
          · exact p.elim
        · exact p.elim
      · exact p.elim
    · exact p.elim
  · split at p
    · rename_i hq hh
      obtain ⟨h1, h2, h3⟩ := hh
      rcases hk with ⟨_, h | h⟩ | ⟨_, _, a, ev, ho, hS⟩
      · exact absurd h1 h
      · rw [h2] at h; cases h
      · subst ev hS
        obtain ⟨m', hm⟩ := Option.isSome_iff_exists.mp h3
        have ho1 : (S1.lab a (some .oth)).ow a = some .oth := lab_same
        obtain ⟨hH2, ho2⟩ := st.oth a ho1
        have r1 : RepM c (S1.lab a (some .oth)) .oth x.1 (.ref a) := by
          have h := rp.1
          rw [h1] at h
          obtain ⟨m0, pl0⟩ := x
          dsimp only at h h2 ⊢
          cases m0 with
          | val d => cases h2
          | ol xs =>
            obtain ⟨p, vs, e1, h1, h2, h3⟩ := h
            cases e1
            exact ⟨a, vs, rfl, h1, lab_same, h3.mono (lab_fr (by rw [h2]; simp))⟩
          | od t kvs =>
            obtain ⟨p, vs, e1, h1, h2, h3⟩ := h
            cases e1
            exact ⟨a, vs, rfl, h1, lab_same, h3.mono (lab_fr (by rw [h2]; simp))⟩
        have r2 : RepM c S2 .oth x.1 (.ref a) := r1.step st.toFr fun p hp => st.oth p hp
        refine ⟨a, x.1, m', rfl, r2.view, hm, fun o ho' hcon => ?_⟩
        have ne1 : ∀ {b : Addr} {q : Pl}, S1.ow b = some q → q ≠ .tmp → b ≠ a := fun h1 h2 z => by subst z; rw [ho] at h1; cases h1; exact h2 rfl
        have ne2 : ∀ {b : Addr} {q : Pl}, S2.ow b = some q → q ≠ .oth → b ≠ a := fun h1 h2 z => by subst z; rw [ho2] at h1; cases h1; exact h2 rfl
        have H3 : ∀ {b : Addr}, b ≠ a → ((S2.lab a (some .tmp)).upd a o).H b = S2.H b := fun hb => upd_ne hb
        have O3 : ∀ {b : Addr}, b ≠ a → ((S2.lab a (some .tmp)).upd a o).ow b = S2.ow b := fun hb => lab_ne hb
        have fr23 : Fr S2 ((S2.lab a (some .tmp)).upd a o) := ⟨fun b u h1 h2 => by
          have hb : b ≠ a := fun z => by subst z; rw [ho2] at h2; cases h2
          exact ⟨by rw [H3 hb]; exact h1, by rw [O3 hb]; exact h2⟩, [], by simp [Wd.upd, Wd.lab]⟩
        have R3 : Rl c ((S2.lab a (some .tmp)).upd a o) e2 s2 σ := R2.step fr23 (fun b q n h1 h2 => by
            have hb := ne2 h1 (fun z => by subst z; cases h2)
            exact ⟨H3 hb, by rw [O3 hb]; exact h1⟩) (fun b i h1 => by
            have hb := ne2 h1 (fun z => nomatch z)
            exact ⟨H3 hb, by rw [O3 hb]; exact h1⟩) rfl (fun b hb => by
            by_cases z : b = a
            · subst z
              show L2.upd S2.H b o b ≠ none
              rw [upd_same]
              simp
            · rw [O3 z] at hb
              rw [H3 z]
              exact R2.dom b hb) (fun b q n h1 h2 => by
            by_cases z : b = a
            · subst z
              have : ((S2.lab b (some .tmp)).upd b o).ow b = some .tmp := lab_same
              rw [this] at h1
              cases h1
              cases h2
            · rw [O3 z] at h1
              exact R2.src b q n h1 h2) (R2.hl.put ho')
        have st3 : StS ws S1 ((S2.lab a (some .tmp)).upd a o) s1 s2 := by
          have f : ∀ {b : Addr}, b ≠ a → (S1.lab a (some .oth)).ow b = S1.ow b := fun hb => lab_ne hb
          refine ⟨⟨⟨fun b u h1 h2 => ?_, st.am⟩, st.ver, fun n en h1 h2 b q hb hq => ?_, fun b hb => ?_⟩, fun b i _ hb => ?_⟩
          · have hb : b ≠ a := fun z => by subst z; rw [ho] at h2; cases h2
            obtain ⟨x1, x2⟩ := st.keep b u h1 (by rw [f hb]; exact h2)
            exact ⟨by rw [H3 hb]; exact x1, by rw [O3 hb]; exact x2⟩
          · have hne := ne1 hb (fun z => by subst z; cases hq)
            obtain ⟨x1, x2⟩ := st.ent n en h1 h2 b q (by rw [f hne]; exact hb) hq
            exact ⟨by rw [H3 hne]; exact x1, by rw [O3 hne]; exact x2⟩
          · have hne := ne1 hb (fun z => nomatch z)
            obtain ⟨x1, x2⟩ := st.oth b (by rw [f hne]; exact hb)
            exact ⟨by rw [H3 hne]; exact x1, by rw [O3 hne]; exact x2⟩
          · have hne := ne1 hb (fun z => nomatch z)
            obtain ⟨x1, x2⟩ := st.slot b i (by rw [f hne]; exact hb)
            exact ⟨by rw [H3 hne]; exact x1, by rw [O3 hne]; exact x2⟩
        exact p _ σ R3 st3
    · exact p.elim
end

section
variable {c : Cn} {W : WX} {ws : List Nat} {σ : L2.St} {S1 S1' : Wd} {s : Store} {e : OI.Env} {D : Ends}
theorem valD_from {fa : OI.Env → Store → Res (M × Pl)} {k : OI.D → OI.Env → Store → Res Flow} {rest : V → Hp → Prop} (Rr : Rl c S1' e s σ) (R0 : RlS c S1 s) (st0 : StE S1 S1' s s)
    (h : PostS c W ws S1 s ((valD fa e s).bind k) D) (hr : ∀ S2 e2 s2 d v, Rl c S2 e2 s2 σ → StE S1' S2 s s2 → RepD c S2 d v → PostS c W ws S1 s (k d e2 s2) D → rest v S2.H) : tE c W fa σ S1'.H rest := by
  unfold valD at h
  rw [Res.bind_bind] at h
  refine ⟨S1', e, s, rfl, Rr, PostS.bindE Rr.toRlS (PostS.shift R0 (st0.sts ws) h) fun x e1 s1 S2 v q1 R1 st1 rp1 p1 => ?_⟩
  rw [q1] at h
  have h : PostS c W ws S1 s (((vl x.1 x.2 e1 s1).bind fun m e2 s2 => .ok m.frz e2 s2).bind k) D := h
  rcases vl_cases R1 rp1 with hb | ⟨S3, m, e2, he, R2, st2, hH, rp2⟩
  · rw [hb] at h
    exact h.elim
  · rw [he] at h
    obtain ⟨S4, R4, hH4, hd, st4⟩ := frz_ste R2 rp2
    rw [← hH, ← hH4]
    exact hr S4 e2 s1 m.frz v R4 ((st1.trans Rr.dom st2).trans Rr.dom st4) hd h
end
section
variable {X : Cx} {c : Cn} {W : WX} {ws : List Nat} {R : Runs} {n : Nat} {pos apos cpos : Pos} {o a b : Expr} {io ia ib : IE}
theorem few0 {pos : Pos} : ((backTo pos (starEach [] X.env)).all (fun x => !x.1) && (backToKw pos (keywordEach [] X.env)).all (fun x => x.1.isSome)) = true := rfl
theorem few1 {pos : Pos} (hp : plainE a = true) : ((backTo pos (starEach [a] X.env)).all (fun x => !x.1) && (backToKw pos (keywordEach [] X.env)).all (fun x => x.1.isSome)
      && decide (([a] : List Expr).length + ([] : List Keyword).length + (if ([] : List Keyword).isEmpty then 0 else 1) < 30)) = true := by rw [star1 hp]; rfl
theorem few2 {pos : Pos} (hp : plainE a = true) (hp2 : plainE b = true) : ((backTo pos (starEach [a, b] X.env)).all (fun x => !x.1) && (backToKw pos (keywordEach [] X.env)).all (fun x => x.1.isSome)
      && decide (([a, b] : List Expr).length + ([] : List Keyword).length + (if ([] : List Keyword).isEmpty then 0 else 1) < 30)) = true := by rw [star2 hp hp2]; rfl
theorem mut1_d {f : String} (d : OI.D) : ∀ d', mutate1 f (.val d') d = none := fun d' => by
  unfold mutate1
  split <;> first | rfl | (rename_i h; cases h)
theorem mut0_d {f : String} : ∀ d', mutate0 f (.val d') = none := fun d' => by
  unfold mutate0
  split <;> first | rfl | (rename_i h; cases h)
theorem lim_lt {n : Nat} (h : n < LIM) : n < sizeLine := Nat.lt_of_lt_of_le h (lim_le (Nat.le_refl _))
/-- o.append(a), o.extend(a) -/
theorem s_app {f : String} {fx : Str} {id : String} {r : V → List V → Hp → VK → Prop} (hK : X.K = c.K) (slot : Slot "list" fx id) (hty : typeOf (.builtin id) = pure (.type "method_descriptor")) (hm : MtM X id r) (hf : f ≠ "update") (hw : ∀ i ∈ io.slot?, i ∈ ws)
    (hr : ∀ (S : Wd) (s : Store) (m m' : M) (d : OI.D) (p : Addr) (y : V) (Q : Hp → Prop), RlS c S s → RepV c S m (.ref p) → RepD c S d y → mutate1 f m d = some m' → (∀ ob, HLo ob → (∀ S' pl, S'.H p = some ob → S'.ow p = some pl → Fr S S' → RepM c S' pl m' (.ref p)) → Q (L2.upd S.H p ob)) → r (.ref p) [y] S.H fun _ H => Q H)
    (ho : PE X o (tE c W (ev R io))) (ha : PE X a (tE c W (ev R ia))) (hpo : plainE o = true) (hpa : plainE a = true) (hline : (apos.endLine == cpos.line) = true) : PS X (.Expr (.Call (.Attribute o fx apos) [a] [] cpos) pos) (tS c W ws (exec R n (.mut1 f io ia))) := by
  refine (ps_expr (pe_bm PySem.F.plainAttrs_list slot hty hm ho (pa1 hpa ha) (plain_base hpo _ _ _) (few1 hpa) hline (plain_star hpa [] X.env) any0) rfl).weak fun D σ H q => ?_
  obtain ⟨S, e, s, rfl, Rr, p⟩ := q
  refine ⟨S, e, s, rfl, Rr, PostS.bindE Rr.toRlS p fun x e1 s1 S1 v q1 R1 st1 rp1 p1 => ?_⟩
  unfold mut1K at p1
  split at p1
  · rename_i hk
    unfold kindOk at hk
    rw [if_neg hf] at hk
    obtain ⟨xs, hx⟩ := Option.isSome_iff_exists.mp hk
    obtain ⟨pv, vs, rfl, hl, _⟩ := lst1_of hx (bw_view R1.toRlS rp1.1)
    refine ⟨.inl ⟨rfl, vs, .inl (.inl hl)⟩, ?_⟩
    obtain ⟨S1', pd, R1', hH, ste⟩ := pend2 R1 rp1
    rw [← hH]
    refine valD_from R1' R1.toRlS ste p1 fun S2 e2 s2 d y R2 st2 rd p2 => ?_
    obtain ⟨a2, m, m', ev, hrep, hm', hnx⟩ := at_ok R1 rp1 pd st2 R2 p2 (mut1_d d) hw
    cases ev
    exact hr S2 s2 m m' d pv y (fun H => D.nx σ H) R2.toRlS hrep rd hm' hnx
  · exact p1.elim
/-- o.clear(), o.reverse() -/
theorem s_app0 {f : String} {fx : Str} {id : String} {r : V → List V → Hp → VK → Prop} (hK : X.K = c.K) (slot : Slot "list" fx id) (hty : typeOf (.builtin id) = pure (.type "method_descriptor")) (hm : MtM X id r) (hw : ∀ i ∈ io.slot?, i ∈ ws)
    (hr : ∀ (S : Wd) (s : Store) (m m' : M) (p : Addr) (Q : Hp → Prop), RlS c S s → RepV c S m (.ref p) → mutate0 f m = some m' → (∀ ob, HLo ob → (∀ S' pl, S'.H p = some ob → S'.ow p = some pl → Fr S S' → RepM c S' pl m' (.ref p)) → Q (L2.upd S.H p ob)) → (∃ xs, m = .ol xs) ∧ r (.ref p) [] S.H fun _ H => Q H)
    (ho : PE X o (tE c W (ev R io))) (hpo : plainE o = true) (hline : (apos.endLine == cpos.line) = true) : PS X (.Expr (.Call (.Attribute o fx apos) [] [] cpos) pos) (tS c W ws (exec R n (.mut0 f io))) := by
  refine (ps_expr (pe_bm0 PySem.F.plainAttrs_list slot hty hm ho (plain_base hpo _ _ _) hline) rfl).weak fun D σ H q => ?_
  obtain ⟨S, e, s, rfl, Rr, p⟩ := q
  refine ⟨S, e, s, rfl, Rr, PostS.bindE Rr.toRlS p fun x e1 s1 S1 v q1 R1 st1 rp1 p1 => ?_⟩
  unfold mut0K at p1
  obtain ⟨S1', pd, R1', hH, ste⟩ := pend2 R1 rp1
  rw [← hH]
  obtain ⟨a2, m, m', ev, hrep, hm', hnx⟩ := at_ok R1 rp1 pd (StE.refl S1' s1) R1' p1 mut0_d hw
  cases ev
  obtain ⟨⟨xs, hx⟩, h2⟩ := hr S1' s1 m m' a2 (fun H => D.nx σ H) R1'.toRlS hrep hm' hnx
  subst hx
  obtain ⟨p3, vs, e3, h3, _⟩ := hrep
  cases e3
  exact ⟨.inl ⟨rfl, vs, .inl (.inl h3)⟩, h2⟩
/-! the rules -/
theorem len_lst {S : Wd} {s : Store} (Rr : RlS c S s) {p : Addr} {vs : List V} (h : S.H p = some (.lst vs)) : vs.length ≤ 16777216 := (Rr.hl p).1 vs h
theorem r_append (S : Wd) (s : Store) (m m' : M) (d : OI.D) (p : Addr) (y : V) (Q : Hp → Prop) (Rr : RlS c S s) (r : RepV c S m (.ref p)) (rd : RepD c S d y) (h : mutate1 "append" m d = some m') (q : ∀ ob, HLo ob → (∀ S' pl, S'.H p = some ob → S'.ow p = some pl → Fr S S' → RepM c S' pl m' (.ref p)) → Q (L2.upd S.H p ob)) : rAppend (.ref p) [y] S.H fun _ H => Q H := by
  cases m with
  | ol xs =>
    have h : (if xs.length < LIM then some (M.ol (xs ++ [d])) else none) = some m' := h
    split at h
    · rename_i hl
      cases h
      obtain ⟨p', vs, ev, h1, h2⟩ := r
      cases ev
      have hv := h2.length
      refine ⟨p, vs, y, rfl, rfl, h1, by rw [hv]; exact lim_lt hl, q _ (HLo.lst ?_) fun S' pl hH ho f => ⟨p, _, rfl, hH, ho, (h2.mono f).append ⟨y, [], rfl, rd.mono f, rfl⟩⟩⟩
      rw [List.length_append, List.length_singleton, hv]
      have : xs.length < 16777216 := hl
      omega
    · cases h
  | _ => cases h
theorem r_extend (S : Wd) (s : Store) (m m' : M) (d : OI.D) (p : Addr) (y : V) (Q : Hp → Prop) (Rr : RlS c S s) (r : RepV c S m (.ref p)) (rd : RepD c S d y) (h : mutate1 "extend" m d = some m') (q : ∀ ob, HLo ob → (∀ S' pl, S'.H p = some ob → S'.ow p = some pl → Fr S S' → RepM c S' pl m' (.ref p)) → Q (L2.upd S.H p ob)) : rExtend (.ref p) [y] S.H fun _ H => Q H := by
  cases m with
  | ol xs =>
    cases d with
    | lst ys =>
      have h : (if xs.length + ys.length ≤ LIM then some (M.ol (xs ++ ys)) else none) = some m' := h
      split at h
      · rename_i hl
        cases h
        obtain ⟨p', vs, ev, h1, h2⟩ := r
        cases ev
        obtain ⟨p2, ws, rfl, h3, _, h4⟩ := rd
        have hv := h2.length
        have hw := h4.length
        refine ⟨p, p2, vs, ws, rfl, rfl, h1, h3, by rw [hv, hw]; exact lim_le hl, q _ (HLo.lst ?_) fun S' pl hH ho f => ⟨p, _, rfl, hH, ho, (h2.mono f).append (h4.mono f)⟩⟩
        rw [List.length_append, hv, hw]
        exact hl
      · cases h
    | _ => cases h
  | _ => cases h
theorem r_clear (S : Wd) (s : Store) (m m' : M) (p : Addr) (Q : Hp → Prop) (Rr : RlS c S s) (r : RepV c S m (.ref p)) (h : mutate0 "clear" m = some m') (q : ∀ ob, HLo ob → (∀ S' pl, S'.H p = some ob → S'.ow p = some pl → Fr S S' → RepM c S' pl m' (.ref p)) → Q (L2.upd S.H p ob)) : (∃ xs, m = .ol xs) ∧ rClear (.ref p) [] S.H fun _ H => Q H := by
  cases m with
  | ol xs =>
    cases h
    obtain ⟨p', vs, ev, h1, h2⟩ := r
    cases ev
    exact ⟨⟨xs, rfl⟩, p, vs, rfl, rfl, h1, q _ (HLo.lst (Nat.zero_le _)) fun S' pl hH ho f => ⟨p, _, rfl, hH, ho, rfl⟩⟩
  | _ => cases h
theorem r_reverse (S : Wd) (s : Store) (m m' : M) (p : Addr) (Q : Hp → Prop) (Rr : RlS c S s) (r : RepV c S m (.ref p)) (h : mutate0 "reverse" m = some m') (q : ∀ ob, HLo ob → (∀ S' pl, S'.H p = some ob → S'.ow p = some pl → Fr S S' → RepM c S' pl m' (.ref p)) → Q (L2.upd S.H p ob)) : (∃ xs, m = .ol xs) ∧ rReverse (.ref p) [] S.H fun _ H => Q H := by
  cases m with
  | ol xs =>
    cases h
    obtain ⟨p', vs, ev, h1, h2⟩ := r
    cases ev
    exact ⟨⟨xs, rfl⟩, p, vs, rfl, rfl, h1, q _ (HLo.lst (by rw [List.length_reverse]; exact len_lst Rr h1)) fun S' pl hH ho f => ⟨p, _, rfl, hH, ho, (h2.mono f).reverse⟩⟩
  | _ => cases h
end
end OI

/-! OIq: o[i] = v; dicts put. -/
namespace OI
open PySem PySem.Spec PyProof.Rows L2
section
variable {c : Cn} {S : Wd}
theorem kany {k : D} (hk : k.flatKey = true) : ∀ {kvs : List (D × D)} {vs : List V}, RepKs c S false kvs vs → (kvs.any fun p => decide (p.1 = k)) = ((kpairs kvs vs).any fun p => decide (p.1 = keyOf k))
  | [], vs, h => by rw [show vs = [] from h]; rfl
  | (a, e) :: r, vs, ⟨w, q, ev, ha, h1, h2⟩ => by
    subst ev
    show (decide (a = k) || _) = (decide (keyOf a = keyOf k) || _)
    rw [kany hk h2]
    congr 1
    by_cases z : a = k
    · subst z; simp
    · rw [decide_eq_false z, decide_eq_false fun y => z (keyOf_inj ha hk y)]
theorem kmap {k d : D} {v : V} (hk : k.flatKey = true) (rd : RepD c S d v) : ∀ {kvs : List (D × D)} {vs : List V}, RepKs c S false kvs vs →
    ∃ vs', RepKs c S false (kvs.map fun p => if p.1 = k then (p.1, d) else p) vs' ∧ kpairs (kvs.map fun p => if p.1 = k then (p.1, d) else p) vs' = (kpairs kvs vs).map fun p => if p.1 = keyOf k then (p.1, v) else p
  | [], vs, h => by rw [show vs = [] from h]; exact ⟨[], rfl, rfl⟩
  | (a, e) :: r, vs, ⟨w, q, ev, ha, h1, h2⟩ => by
    subst ev
    obtain ⟨vs', i1, i2⟩ := kmap hk rd h2
    by_cases z : a = k
    · subst z
      refine ⟨v :: vs', ?_, ?_⟩
      · rw [List.map_cons, if_pos rfl]
        exact ⟨v, vs', rfl, ha, rd, i1⟩
      · rw [List.map_cons, if_pos rfl]
        show (keyOf a, v) :: kpairs _ vs' = List.map _ ((keyOf a, w) :: kpairs r q)
        rw [i2, List.map_cons, if_pos rfl]
    · have hne : keyOf a ≠ keyOf k := fun y => z (keyOf_inj ha hk y)
      refine ⟨w :: vs', ?_, ?_⟩
      · rw [List.map_cons, if_neg z]
        exact ⟨w, vs', rfl, ha, h1, i1⟩
      · rw [List.map_cons, if_neg z]
        show (keyOf a, w) :: kpairs _ vs' = List.map _ ((keyOf a, w) :: kpairs r q)
        rw [i2, List.map_cons, if_neg hne]
theorem ksnoc {k d : D} {v : V} (hk : k.flatKey = true) (rd : RepD c S d v) : ∀ {kvs : List (D × D)} {vs : List V}, RepKs c S false kvs vs → RepKs c S false (kvs ++ [(k, d)]) (vs ++ [v]) ∧ kpairs (kvs ++ [(k, d)]) (vs ++ [v]) = kpairs kvs vs ++ [(keyOf k, v)]
  | [], vs, h => by rw [show vs = [] from h]; exact ⟨⟨v, [], rfl, hk, rd, rfl⟩, rfl⟩
  | (a, e) :: r, vs, ⟨w, q, ev, ha, h1, h2⟩ => by
    subst ev
    obtain ⟨i1, i2⟩ := ksnoc hk rd h2
    refine ⟨⟨w, q ++ [v], rfl, ha, h1, i1⟩, ?_⟩
    show (keyOf a, w) :: kpairs (r ++ [(k, d)]) (q ++ [v]) = (keyOf a, w) :: (kpairs r q ++ [(keyOf k, v)])
    rw [i2]
theorem kput {k d : D} {v : V} (hk : k.flatKey = true) (rd : RepD c S d v) {kvs : List (D × D)} {vs : List V} (h : RepKs c S false kvs vs) : ∃ vs', RepKs c S false (dput kvs k d) vs' ∧ kpairs (dput kvs k d) vs' = putK (kpairs kvs vs) (keyOf k) v := by
  unfold dput putK
  rw [← kany hk h]
  split
  · exact kmap hk rd h
  · exact ⟨_, ksnoc hk rd h⟩
theorem RepKs.app {kvs more : List (D × D)} {vs ws : List V} : RepKs c S false kvs vs → RepKs c S false more ws → RepKs c S false (kvs ++ more) (vs ++ ws) := by
  induction kvs generalizing vs with
  | nil => intro h h2; rw [show vs = [] from h]; exact h2
  | cons p r ih =>
    obtain ⟨a, e⟩ := p
    intro ⟨w, q, ev, ha, h1, h3⟩ h2
    subst ev
    exact ⟨w, q ++ ws, rfl, ha, h1, ih h3 h2⟩
/-- {..} and d.update -/
theorem kmerge : ∀ {more kvs : List (D × D)} {vs ws : List V}, RepKs c S false kvs vs → RepKs c S false more ws → ∃ vs', RepKs c S false (dmerge kvs more) vs' ∧ kpairs (dmerge kvs more) vs' = mergeK (kpairs kvs vs) (kpairs more ws)
  | [], kvs, vs, ws, h, h2 => by
    rw [show ws = [] from h2]
    exact ⟨vs, h, rfl⟩
  | (k, d) :: more, kvs, vs, ws, h, ⟨w, q, ev, ha, h1, h2⟩ => by
    subst ev
    obtain ⟨vs1, i1, i2⟩ := kput (k := k) ha h1 h
    obtain ⟨vs2, j1, j2⟩ := kmerge i1 h2
    refine ⟨vs2, j1, ?_⟩
    show kpairs (dmerge (dput kvs k d) more) vs2 = mergeK (putK (kpairs kvs vs) (keyOf k) w) (kpairs more q)
    rw [j2, i2]
end

section
variable {X : Cx} {c : Cn} {W : WX} {ws : List Nat} {R : Runs} {n : Nat} {pos tpos : Pos} {o i a : Expr} {io ii ia : IE}
def rSetLD : TSet := fun o i v H Q => rSetL o i v H Q ∨ rSetD o i v H Q
theorem set_LD (hu : X.A.units + 1 < cLine) : PSet X rSetLD := by
  intro pins s σ H o i v ov iv u Q I ro ri rv h
  rcases h with h | h
  · exact set_list pins s σ H o i v ov iv u Q I ro ri rv h
  · exact set_dict hu pins s σ H o i v ov iv u Q I ro ri rv h
theorem set_d {k d : D} : ∀ d', setItem (.val d') k d = none := fun _ => rfl
theorem r_set {S : Wd} {s : Store} {m m' : M} {k d : D} {p : Addr} {y z : V} {Q : Hp → Prop} (Rr : RlS c S s) (r : RepV c S m (.ref p)) (rk : RepD c S k z) (rd : RepD c S d y) (h : setItem m k d = some m') (q : ∀ ob, HLo ob → (∀ S' pl, S'.H p = some ob → S'.ow p = some pl → Fr S S' → RepM c S' pl m' (.ref p)) → Q (L2.upd S.H p ob)) : rSetLD (.ref p) z y S.H Q := by
  cases m with
  | val d' => cases h
  | ol xs =>
    obtain ⟨p', vs, ev, h1, h2⟩ := r
    cases ev
    unfold setItem at h
    dsimp only at h
    split at h
    · rename_i j
      cases e : L2.ixN xs.length j with
      | none => rw [e] at h; cases h
      | some t =>
        rw [e] at h
        have h : some (M.ol (xs.set t d)) = some m' := h
        cases h
        have hl := h2.length
        exact .inl ⟨p, vs, j, t, rfl, rk, h1, by rw [hl]; exact e, q _ (HLo.lst (by rw [List.length_set]; exact len_lst Rr h1)) fun S' pl hH ho f => ⟨p, _, rfl, hH, ho, (h2.mono f).set (rd.mono f) t⟩⟩
    · cases h
  | od t kvs =>
    cases t with
    | true => unfold setItem at h; dsimp only at h; cases h
    | false =>
    obtain ⟨p', vs, ev, h1, h2⟩ := r
    cases ev
    unfold setItem at h
    dsimp only at h
    split at h
    · rename_i hk
      cases h
      obtain ⟨hk1, hk2⟩ := hk
      have hk1 : k.flatKey = true := hk1
      have hz := keyOf_V hk1 rk
      have hlen := RepKs.len2 h2
      refine .inr ⟨p, _, rfl, .inl ⟨kpairs kvs vs, keyOf k, h1, hz, by rw [hlen]; exact lim_lt hk2, rfl⟩, q _ (HLo.dK ?_) fun S' pl hH ho f => ?_⟩
      · have h3 := length_putK (kpairs kvs vs) (keyOf k) y
        have : kvs.length < 16777216 := hk2
        omega
      · obtain ⟨vs', i1, i2⟩ := kput hk1 (rd.mono f) (h2.mono f)
        exact ⟨p, vs', rfl, by rw [hH, ← i2]; rfl, ho, i1⟩
    · cases h
theorem s_setI (hu : X.A.units + 1 < cLine) (hw : ∀ j ∈ io.slot?, j ∈ ws) (hs : ∀ l, swapsWithSole [.Subscript o i tpos] a l X.env = pure false) (hsw : swappedStores [.Subscript o i tpos] a X.env = pure none) (ha : PE X a (tE c W (ev R ia))) (ho : PE X o (tE c W (ev R io))) (hi : PE X i (tE c W (ev R ii)))
    (hasg : ∀ v, assign (.Subscript o i tpos) X.env v = (do
      let ov ← holding [v] (eval o X.env)
      let iv ← holding [v, ov] (eval i X.env)
      standAt tpos
      holding [v, ov, iv] (PySem.setItem ov iv v)
      release [v, ov, iv] [])) : PS X (.Assign [.Subscript o i tpos] a pos) (tS c W ws (exec R n (.setI io ii ia))) := by
  refine (ps_asg ha (pg_sub ho hi (set_LD hu) hasg) (hs _) hsw rfl).weak fun D σ H q => ?_
  obtain ⟨S, e, s, rfl, Rr, p⟩ := q
  refine valD_okS Rr p fun S1 e1 s1 d y R1 st1 rd p1 => ?_
  refine ⟨S1, e1, s1, rfl, R1, PostS.bindE R1.toRlS p1 fun x e2 s2 S2 v q2 R2 st2 rp2 p2 => ?_⟩
  obtain ⟨S2', pd, R2', hH, ste⟩ := pend2 R2 rp2
  rw [← hH]
  refine valD_from R2' R2.toRlS ste p2 fun S3 e3 s3 k z R3 st3 rk p3 => ?_
  obtain ⟨a2, m, m', ev, hrep, hm', hnx⟩ := at_ok R2 rp2 pd st3 R3 p3 set_d hw
  subst ev
  exact r_set (Q := fun H3 => D.nx σ H3) R3.toRlS hrep rk (rd.mono ((st2.toFr.trans ste.toFr).trans st3.toFr)) hm' hnx
end
end OI

/-! OIr: what is walked; for, while. -/
namespace OI
open PySem PySem.Spec PyProof.Rows L2

/-- the iterator yields ds at S -/
structure WalksAt (c : Cn) (J : L2.It) (ds : List D) (S : Wd) : Prop where
  go : ∀ i d, ds[i]? = some d → J.go i S.H
  yld : ∀ i d s x H', ds[i]? = some d → RlS c S s → J.yld i S.H x H' → ∃ S', Al S S' ∧ S'.H = H' ∧ RepD c S' d x
  stop : ∀ i, ds.length ≤ i → J.stop i S.H
abbrev rI (c : Cn) : Wd → Store → List D × List Src → L2.It → Prop := fun S s x J => ∀ ws S' s', StS ws S S' s s' → still x.2 s s' = true → apart x.2 ws = true → WalksAt c J x.1 S'
def tI (c : Cn) (W : WX) (f : OI.Env → Store → Res (List D × List Src)) : TI := tG c W f fun _ => rI c
theorem _root_.L2.PI.weak {X : Cx} {tg a : Expr} {t u : TI} (h : PI X tg a u) (k : ∀ σ H Q, t σ H Q → u σ H Q) : PI X tg a t := ⟨fun pins s σ H Q I q => h.run pins s σ H Q I (k σ H Q q)⟩

/-! ### a list, a tuple, a text -/
def iAny (K : PySem.W.Frag) (te : TE) : TI := fun σ H R => te σ H fun x H1 => (∃ a xs, x = .ref a ∧ SqL K H1 a xs ∧ R (Itl K a) H1) ∨ (∃ a xs, x = .ref a ∧ SqT K H1 a xs ∧ R (Itt K a) H1) ∨ ∃ z, x = .str z ∧ R (Its z) H1
theorem pi_any {X : Cx} {tg l : Expr} {te : TE} (hl : PE X l te) : PI X tg l (iAny X.K te) := by
  refine ⟨fun pins s σ H R I h => ?_⟩
  refine thn (hl.run pins s σ H _ I h) fun v s1 ⟨x, H1, I1, r1, q1⟩ => ?_
  rcases q1 with ⟨a, xs, rfl, hq, q⟩ | ⟨a, xs, rfl, hq, q⟩ | ⟨z, rfl, q⟩
  · cases r1
    obtain ⟨its, rv, p, hz⟩ := I1.list hq
    refine wpAny_pyIter_list p.isList ?_
    refine ⟨s1.heap.objs.size, [s1.heap.objs.size], _, _, H1, rfl, I1.kept (t' := s1.toks) fun b o e => Heap.get?_push_of_some _ e, turn_list a _, ⟨_, Heap.get?_push_size _ rfl, rfl, rfl⟩, fun b hb => ?_, q⟩
    have e : b = s1.heap.objs.size := by simpa using hb
    subst e
    exact I1.fpOk (Nat.le_refl _) (I1.hok.fresh (Nat.le_refl _))
  · cases r1
    obtain ⟨its, rv, p, hz⟩ := I1.tuple hq
    refine wpAny_pyIter_tuple (show s1.heap.IsTuple a its.toArray from p) ?_
    refine ⟨s1.heap.objs.size, [s1.heap.objs.size], _, _, H1, rfl, I1.kept (t' := s1.toks) fun b o e => Heap.get?_push_of_some _ e, turn_tuple a _, ⟨_, Heap.get?_push_size _ rfl, rfl, rfl⟩, fun b hb => ?_, q⟩
    have e : b = s1.heap.objs.size := by simpa using hb
    subst e
    exact I1.fpOk (Nat.le_refl _) (I1.hok.fresh (Nat.le_refl _))
  · obtain ⟨t, rfl⟩ := r1
    cases ha : z.cps.all (· < 128)
    · exact wpAny_pyIter_wide ha (pi_one (tk := s1.toks) I1 _ (turn_str _ z t "str_iterator" (.inr rfl)) ⟨_, Heap.get?_push_size _ rfl, rfl, rfl⟩ q)
    · exact wpAny_pyIter_ascii ha (pi_one (tk := s1.toks) I1 _ (turn_str _ z t "str_ascii_iterator" (.inl rfl)) ⟨_, Heap.get?_push_size _ rfl, rfl, rfl⟩ q)

section
variable {c : Cn} {W : WX} {ws : List Nat} {σ : L2.St} {S S' : Wd} {s s' : Store} {e : OI.Env}
/-- what is walked may be read as long as its source was left alone -/
theorem wk_keep {m : M} {pl : Pl} {v : V} (R : RlS c S s) (h : RepM c S pl m v) (hp : pl ≠ .tmp) (st : StS ws S S' s s') (k : still (wk m pl s).2 s s' = true) (ha : apart (wk m pl s).2 ws = true) : RepV c S' (wk m pl s).1 v := by
  have f := st.toFr
  have ent : ∀ n, s[n]? = s'[n]? → ∀ a p, S.ow a = some p → p.src = some n → S'.H a = S.H a := fun n hn a p hp hs => by
    have hlt := R.src a p n hp hs
    have he := List.getElem?_eq_getElem hlt
    exact (st.ent n _ he (hn ▸ he) a p hp hs).1
  have own : m.isVal = false → still pl.walk s s' = true → apart pl.walk ws = true → ∀ a, S.ow a = some pl → S'.H a = S.H a := fun hm k ha a ho => by
    cases pl with
    | slot i =>
      have hi : i ∉ ws := by simpa [Pl.walk, apart] using ha
      exact (st.slot a i hi ho).1
    | fld n g =>
      have hn : s[n]? = s'[n]? := by simpa [Pl.walk, still] using k
      exact ent n hn a _ ho rfl
    | obj n =>
      have hn : s[n]? = s'[n]? := by simpa [Pl.walk, still] using k
      exact ent n hn a _ ho rfl
    | tmp => exact absurd rfl hp
    | oth => exact (st.oth a ho).1
  cases m with
  | val d =>
    cases d with
    | loc n =>
      obtain ⟨a, e1, ha'⟩ := h
      unfold wk at k ha ⊢
      dsimp only at k ha ⊢
      split at k
      · rename_i xs w he
        obtain ⟨h0, vs, h1, h2⟩ := Rl.locs R ha' he
        have hn : s[n]? = s'[n]? := by simpa [still] using k
        exact ⟨a, vs, e1, by rw [ent n hn a _ h0 rfl]; exact h1, h2.mono f⟩
      · rename_i t kvs w he
        obtain ⟨h0, vs, h1, h2⟩ := Rl.locs R ha' he
        have hn : s[n]? = s'[n]? := by simpa [still] using k
        exact ⟨a, vs, e1, by rw [ent n hn a _ h0 rfl]; exact h1, h2.mono f⟩
      · exact ⟨a, e1, f.amAt ha'⟩
    | _ => exact RepD.mono f h
  | ol xs =>
    obtain ⟨p, vs, e1, h1, h2, h3⟩ := h
    exact ⟨p, vs, e1, by rw [own rfl k ha p h2]; exact h1, h3.mono f⟩
  | od t kvs =>
    obtain ⟨p, vs, e1, h1, h2, h3⟩ := h
    exact ⟨p, vs, e1, by rw [own rfl k ha p h2]; exact h1, h3.mono f⟩
theorem gives_list {a : Addr} {ds : List D} {vs : List V} {K : PySem.W.Frag} (hK : K = c.K) (h : SqL c.K S.H a vs) (r : RepDs c S ds vs) : WalksAt c (Itl K a) ds S where
  go := fun i d hd => by
    obtain ⟨v, hv, _⟩ := r.get hd
    rw [hK]
    exact ⟨vs, v, h, hv⟩
  yld := fun i d s x H' hd Rr hy => by
    obtain ⟨e, hy⟩ := hy
    rw [hK] at hy
    obtain ⟨v, hv, rd⟩ := r.get hd
    have := hy vs h
    rw [hv] at this
    cases this
    exact ⟨S, Al.refl Rr, e.symm, rd⟩
  stop := fun i hi => by rw [hK]; exact ⟨vs, h, by rw [r.length]; exact hi⟩
theorem gives_tup {a : Addr} {ds : List D} {vs : List V} {K : PySem.W.Frag} (hK : K = c.K) (h : SqT c.K S.H a vs) (r : RepDs c S ds vs) : WalksAt c (Itt K a) ds S where
  go := fun i d hd => by
    obtain ⟨v, hv, _⟩ := r.get hd
    rw [hK]
    exact ⟨vs, v, h, hv⟩
  yld := fun i d s x H' hd Rr hy => by
    obtain ⟨e, hy⟩ := hy
    rw [hK] at hy
    obtain ⟨v, hv, rd⟩ := r.get hd
    have := hy vs h
    rw [hv] at this
    cases this
    exact ⟨S, Al.refl Rr, e.symm, rd⟩
  stop := fun i hi => by rw [hK]; exact ⟨vs, h, by rw [r.length]; exact hi⟩
theorem gives_rng {lo hi : Int} : WalksAt c (Itr lo (hi - lo).toNat) (rng lo hi) S where
  go := fun i d hd => by
    have h1 := (List.getElem?_eq_some_iff.mp hd).1
    have h2 : i < (hi - lo).toNat := by
      unfold rng at h1
      rw [List.length_map, List.length_range] at h1
      exact h1
    exact h2
  yld := fun i d s x H' hd Rr hy => by
    obtain ⟨e, hx⟩ := hy
    have hlt := (List.getElem?_eq_some_iff.mp hd).1
    have : d = .int (lo + (i : Nat)) := by
      unfold rng at hd
      rw [List.getElem?_map, List.getElem?_range (by simpa [rng] using hlt)] at hd
      exact (Option.some.inj hd).symm
    subst this
    exact ⟨S, Al.refl Rr, e.symm, hx⟩
  stop := fun i hl => by
    have h2 : (hi - lo).toNat ≤ i := by
      unfold rng at hl
      rw [List.length_map, List.length_range] at hl
      exact hl
    exact h2
theorem gives_str {z : Str} : WalksAt c (Its z) (signs z) S where
  go := fun i d hd => by
    have h1 := (List.getElem?_eq_some_iff.mp hd).1
    have h2 : i < z.cps.size := by
      unfold signs at h1
      rw [List.length_map, Array.length_toList] at h1
      exact h1
    exact h2
  yld := fun i d s x H' hd Rr hy => by
    obtain ⟨e, cc, hc, hx⟩ := hy
    have : d = .str ⟨#[cc]⟩ := by
      unfold signs at hd
      rw [List.getElem?_map, Array.getElem?_toList, hc] at hd
      exact (Option.some.inj hd).symm
    subst this
    exact ⟨S, Al.refl Rr, e.symm, hx⟩
  stop := fun i hl => by
    have h2 : z.cps.size ≤ i := by
      unfold signs at hl
      rw [List.length_map, Array.length_toList] at hl
      exact hl
    exact h2
theorem items_how {m : M} {ds : List D} (h : items m = some ds) : m.lst? = some ds ∨ m = .val (.tup ds) ∨ ∃ z, m = .val (.str z) ∧ ds = signs z := by
  unfold items at h
  split at h
  · cases h; exact .inr (.inr ⟨_, rfl, rfl⟩)
  · split at h
    · rename_i xs hs
      cases h
      unfold M.seq? at hs
      split at hs
      · cases hs; exact .inr (.inl rfl)
      · exact .inl hs
    · cases h
end
section
variable {X : Cx} {c : Cn} {W : WX} {R : Runs} {tg a a2 a3 : Expr} {ia ib ic : IE} {p pos : Pos}
theorem s_of (hK : X.K = c.K) (ha : PE X a (tE c W (ev R ia))) : PI X tg a (tI c W (evi R (.of ia))) :=
  (pi_any ha).weak fun σ H Q q => by
    obtain ⟨S, e, s, rfl, Rr, p⟩ := q
    refine ⟨S, e, s, rfl, Rr, PostG.bind Rr.toRlS p fun x e1 s1 S1 v q1 R1 st1 rp1 p1 => ?_⟩
    obtain ⟨S2, pl', R2, hH, ham, rp2, hpl, _, hwk, st2⟩ := pend R1 rp1.1
    replace p1 := PostG.shift R1.toRlS st2 p1
    unfold itK at p1
    rw [← hwk] at p1
    rw [← hH]
    split at p1
    · rename_i xs hx
      have hv : ∀ ws S' s', StS ws S2 S' s1 s' → still (wk x.1 pl' s1).2 s1 s' = true → apart (wk x.1 pl' s1).2 ws = true → RepV c S' (wk x.1 pl' s1).1 v := fun ws S' s' st k ha => wk_keep R2.toRlS rp2 hpl st k ha
      have h0 : RepV c S2 (wk x.1 pl' s1).1 v := hv [] S2 s1 (StS.refl _ _ _) (by simp [still]; intro w _; cases w <;> simp) (by simp [apart]; intro w _; cases w <;> simp)
      rcases items_how hx with h | h | ⟨z, h, hz⟩
      · obtain ⟨a, vs, ev, hl, _⟩ := lst_of h h0
        refine .inl ⟨a, vs, ev, by rw [hK]; exact hl, p1 S2 _ R2 (StE.refl _ _) fun ws S' s' st k ha => ?_⟩
        obtain ⟨b, vs', ev', hl', rd⟩ := lst_of h (hv ws S' s' st k ha)
        rw [ev] at ev'
        cases ev'
        exact gives_list hK hl' rd
      · rw [h] at h0
        obtain ⟨a, vs, ev, hl, _⟩ := h0
        refine .inr (.inl ⟨a, vs, ev, by rw [hK]; exact hl.sq, p1 S2 _ R2 (StE.refl _ _) fun ws S' s' st k ha => ?_⟩)
        have h1 := hv ws S' s' st k ha
        rw [h] at h1
        obtain ⟨b, vs', ev', hl', rd⟩ := h1
        rw [ev] at ev'
        cases ev'
        exact gives_tup hK hl'.sq rd
      · rw [h] at h0
        refine .inr (.inr ⟨z, h0, p1 S2 _ R2 (StE.refl _ _) fun ws S' s' st k ha => ?_⟩)
        rw [hz]
        exact gives_str
    · exact p1.elim
theorem getI_ok {α β : Type} {m : M} {S : Wd} {s : Store} {e : OI.Env} {σ : L2.St} {k : Int → OI.Env → Store → Res α} {rep : Wd → Store → α → β → Prop} {Q : β → Hp → Prop} (h : PostG c W σ S s ((getI m e s).bind k) rep Q) : ∃ i, m = .val (.int i) ∧ -(2 ^ 62) ≤ i ∧ i < 2 ^ 62 ∧ PostG c W σ S s (k i e s) rep Q := by
  unfold getI at h
  split at h
  · rename_i i
    by_cases hi : -(2 ^ 62) ≤ i ∧ i < 2 ^ 62
    · rw [if_pos hi] at h
      exact ⟨i, rfl, hi.1, hi.2, h⟩
    · rw [if_neg hi] at h
      exact h.elim
  · exact h.elim
theorem s_rng1 (hg : Gl X "range") (hm : X.mg "range" = none) (hp : plainE a = true) (ha : PE X a (tE c W (ev R ia))) : PI X tg (.Call (.Name "range" p) [a] [] pos) (tI c W (evi R (.rng1 ia))) :=
  (pi_range1 hg hm (pa1 hp ha) (star1 hp)).weak fun σ H Q q => by
    obtain ⟨S, e, s, rfl, Rr, p⟩ := q
    refine ⟨S, e, s, rfl, Rr, PostG.bind Rr.toRlS p fun x e1 s1 S1 v q1 R1 st1 rp1 p1 => ?_⟩
    unfold rng1K at p1
    obtain ⟨j, hx, h1, h2, p1⟩ := getI_ok p1
    have r := rp1.1
    rw [hx] at r
    refine ⟨j, by rw [show v = V.int j from r], h1, h2, p1 S1 _ R1 (StE.refl _ _) fun ws S' s' _ _ _ => ?_⟩
    have := gives_rng (c := c) (S := S') (lo := 0) (hi := j)
    rw [Int.sub_zero] at this
    exact this
theorem two_I {fa fb : OI.Env → Store → Res (M × Pl)} {k : M → M → OI.Env → Store → Res (List D × List Src)} {σ : L2.St} {H : Hp} {Q : L2.It → Hp → Prop} {rest : V → V → Hp → Prop} (h : tI c W (two fa fb k) σ H Q)
    (hr : ∀ S e s m1 m2 x y, Rl c S e s σ → RepV c S m1 x → RepV c S m2 y → PostG c W σ S s (k m1 m2 e s) (rI c) Q → rest x y S.H) :
    tE c W fa σ H fun x H1 => tE c W fb σ H1 fun y H2 => rest x y H2 := by
  obtain ⟨S, e, s, rfl, Rr, p⟩ := h
  refine ⟨S, e, s, rfl, Rr, PostG.bind Rr.toRlS p fun x1 e1 s1 S1 v1 q1 R1 st1 rp1 p1 => ?_⟩
  obtain ⟨S1', pl', R1', hH, ham, rp1', hpl, hbw, _, st1'⟩ := pend R1 rp1.1
  replace p1 := PostG.shift R1.toRlS st1' p1
  refine ⟨S1', e1, s1, hH, R1', PostG.bind R1'.toRlS p1 fun x2 e2 s2 S2 v2 q2 R2 st2 rp2 p2 => ?_⟩
  split at p2
  · rename_i hs
    rw [← hbw] at hs p2
    exact hr S2 e2 s2 _ _ v1 v2 R2 (bw_keep R1'.toRlS rp1' hpl st2 hs) (bw_view R2.toRlS rp2.1) p2
  · exact p2.elim
theorem s_rng2 (hg : Gl X "range") (hm : X.mg "range" = none) (hp : plainE a = true) (ha : PE X a (tE c W (ev R ia))) (hp2 : plainE a2 = true) (hb : PE X a2 (tE c W (ev R ib))) : PI X tg (.Call (.Name "range" p) [a, a2] [] pos) (tI c W (evi R (.rng2 ia ib))) :=
  (pi_range2 hg hm (pa2 hp ha hp2 hb) (star2 hp hp2) (star1 hp2)).weak fun σ H Q q => two_I q fun S e s m1 m2 x y Rr r1 r2 p => by
    unfold rng2K at p
    obtain ⟨i, rfl, h1, h2, p⟩ := getI_ok p
    obtain ⟨j, rfl, h3, h4, p⟩ := getI_ok p
    exact ⟨i, j, by rw [show x = V.int i from r1, show y = V.int j from r2], ⟨h1, h2, h3, h4⟩, p S _ Rr (StE.refl _ _) fun ws S' s' _ _ _ => gives_rng⟩

/-! ### for, while -/
variable {ws : List Nat} {n : Nat}
theorem s_for {iter : Expr} {body : List Stmt} {t : Tg} {it : OI.It} {ib : ISs} (hK : X.K = c.K) (hp : PassesOwn (model X.prog X.w) X.A X.env X.xe) (hc : X.calm = true) (hi : PI X tg iter (tI c W (evi R it))) (hg : PG X tg (gT X.K t)) (hw : ∀ i ∈ t.slots ++ wrs ib, i ∈ ws)
    (hb : PSs X body (tS c W (t.slots ++ wrs ib) (execs R n ib))) (hs : ∀ x, foldedSetIterable iter X.env x = pure x) : PS X (.For tg iter body [] pos) (tS c W ws (exec R n (.fors t it ib))) :=
  (ps_for hp hc hi hg hb hs).weak fun D σ H q => by
    obtain ⟨S, e, s, rfl, Rr, p⟩ := q
    refine ⟨S, e, s, rfl, Rr, PostS.bindE Rr.toRlS p fun x e1 s1 S1 J q1 R1 st1 rj p1 => ?_⟩
    split at p1
    · rename_i hap
      refine ⟨fun i m σ H => m = x.1.length - i ∧ i ≤ x.1.length ∧ ∃ S e s, S.H = H ∧ Rl c S e s σ ∧ StS (t.slots ++ wrs ib) S1 S s1 s ∧ PostS c W (t.slots ++ wrs ib) S s (forL x.2 s1 t (execs R n ib) (x.1.drop i) e s) D, ⟨x.1.length, rfl, Nat.zero_le _, S1, e1, s1, rfl, R1, StS.refl _ _ _, p1.mono hw⟩, ?_⟩
      rintro i m σ2 H2 ⟨rfl, hi, S2, e2, s2, rfl, R2, st2, p2⟩
      by_cases hlt : i < x.1.length
      · rw [List.drop_eq_getElem_cons hlt] at p2
        unfold forL at p2
        split at p2
        · rename_i hst
          have hg := rj _ S2 s2 st2 hst hap
          have hd : x.1[i]? = some x.1[i] := List.getElem?_eq_getElem hlt
          split at p2
          · exact p2.elim
          · rename_i e3 he3
            refine .inr ⟨hg.go i _ hd, fun σ' H' => (i + 1) ≤ x.1.length ∧ ∃ S e s, S.H = H' ∧ Rl c S e s σ' ∧ StS (t.slots ++ wrs ib) S1 S s1 s ∧ PostS c W (t.slots ++ wrs ib) S s (forL x.2 s1 t (execs R n ib) (x.1.drop (i + 1)) e s) D, fun σ' H' ⟨h1, h2⟩ => ⟨x.1.length - (i + 1), by omega, rfl, h1, h2⟩, fun y H' hy => ?_⟩
            obtain ⟨S3, al, hH, rd⟩ := hg.yld i _ s2 y H' hd R2.toRlS hy
            subst hH
            have R3 := al.rl R2
            refine tg_ok (m := .val x.1[i]) hK R3 rd he3 fun S4 σ4 hH4 R4 st4 _ => ?_
            have st14 := ((st2.trans R1.dom ((al.ste R2.dom s2).sts _)).trans R1.dom (st4.mono fun j hj => List.mem_append_left _ hj))
            have st24 : StS (t.slots ++ wrs ib) S2 S4 s2 s2 := ((al.ste R2.dom s2).sts _).trans R2.dom (st4.mono fun j hj => List.mem_append_left _ hj)
            have p4 := PostS.shift R2.toRlS st24 p2
            have p5 := PostS.bindS (N := fun σ' H' => (i + 1) ≤ x.1.length ∧ ∃ S e s, S.H = H' ∧ Rl c S e s σ' ∧ StS (t.slots ++ wrs ib) S1 S s1 s ∧ PostS c W (t.slots ++ wrs ib) S s (forL x.2 s1 t (execs R n ib) (x.1.drop (i + 1)) e s) D) R4.toRlS p4 fun e5 s5 S5 σ5 q5 R5 st5 p5 => ⟨hlt, S5, e5, s5, rfl, R5, st14.trans R1.dom st5, p5⟩
            refine ⟨S4, e3, s2, rfl, R4, ?_⟩
            revert p5
            generalize execs R n ib e3 s2 = r
            intro p5
            cases r with
            | ok f e' s' => cases f <;> exact p5
            | err k e' s' => exact p5
            | bad => exact p5
        · exact p2.elim
      · have hie : i = x.1.length := by omega
        subst hie
        rw [List.drop_length] at p2
        unfold forL at p2
        split at p2
        · rename_i hst
          have hg := rj _ S2 s2 st2 hst hap
          exact .inl ⟨hg.stop _ (Nat.le_refl _), p2 S2 σ2 R2 (StS.refl _ _ _)⟩
        · exact p2.elim
    · exact p1.elim
theorem s_while {t : Expr} {body : List Stmt} {it : IE} {ib : ISs} (hp : PassesOwn (model X.prog X.w) X.A X.env X.xe) (ht : PT X t (tT c W (ev R it))) (hb : PSs X body (tS c W ws (execs R n ib))) : PS X (.While t body [] pos) (tS c W ws (exec R n (.whil it ib))) :=
  (ps_while hp ht hb).weak fun D σ H q => by
    obtain ⟨S, e, s, rfl, Rr, p⟩ := q
    refine ⟨fun m σ H => ∃ S e s, S.H = H ∧ Rl c S e s σ ∧ PostS c W ws S s (whileL (testS (ev R it)) (execs R n ib) m e s) D, ⟨n, S, e, s, rfl, Rr, p⟩, ?_⟩
    rintro m σ2 H2 ⟨S2, e2, s2, rfl, R2, p2⟩
    cases m with
    | zero => exact p2.elim
    | succ m =>
      unfold whileL at p2
      refine test_okS R2 p2 fun S3 e3 s3 b R3 st3 p3 => ?_
      cases b with
      | true =>
        have p3 : PostS c W ws S3 s3 ((execs R n ib e3 s3).bind fun f e s => match f with
          | .nx => whileL (testS (ev R it)) (execs R n ib) m e s
          | .ret m => .ok (.ret m) e s) D := p3
        rw [if_pos rfl]
        refine ⟨fun σ' H' => ∃ S e s, S.H = H' ∧ Rl c S e s σ' ∧ PostS c W ws S s (whileL (testS (ev R it)) (execs R n ib) m e s) D, fun σ' H' h => ⟨m, Nat.lt_succ_self m, h⟩, ?_⟩
        have p5 := PostS.bindS (N := fun σ' H' => ∃ S e s, S.H = H' ∧ Rl c S e s σ' ∧ PostS c W ws S s (whileL (testS (ev R it)) (execs R n ib) m e s) D) R3.toRlS p3 fun e5 s5 S5 σ5 q5 R5 st5 p5 => ⟨S5, e5, s5, rfl, R5, p5⟩
        refine ⟨S3, e3, s3, rfl, R3, ?_⟩
        revert p5
        generalize execs R n ib e3 s3 = r
        intro p5
        cases r with
        | ok f e' s' => cases f <;> exact p5
        | err k e' s' => exact p5
        | bad => exact p5
      | false =>
        rw [if_neg Bool.false_ne_true]
        exact p3 S3 σ2 R3 (StS.refl _ _ _)
end
end OI

/-! OIs: list comprehensions. -/
namespace OI
open PySem PySem.Spec PyProof.Rows L2
/-- no exception leaves -/
abbrev WN : WX := fun _ _ _ _ => False
section
variable {c : Cn} {W : WX} {σ σ2 : L2.St} {S S1 : Wd} {s s1 : Store} {e : OI.Env}
theorem quiet_ok {α β γ δ : Type} {r : Res α} {k : α → OI.Env → Store → Res γ} {rep : Wd → Store → α → β → Prop} {rep' : Wd → Store → γ → δ → Prop} {Q : δ → Hp → Prop} {G : β → Hp → Prop} (h : PostG c W σ S1 s1 ((quiet r).bind k) rep' Q)
    (g : ∀ x e2 s2 S2 y, r = .ok x e2 s2 → Rl c S2 e2 s2 σ2 → StE S S2 s s2 → rep S2 s2 x y → PostG c W σ S1 s1 (k x e2 s2) rep' Q → G y S2.H) : PostG c WN σ2 S s r rep G := by
  cases r with
  | ok x e2 s2 => exact fun S2 y R2 st rp => g x e2 s2 S2 y rfl R2 st rp h
  | err k' e2 s2 => exact h.elim
  | bad => exact h.elim
/-- the names of a block are forgotten -/
theorem wipe_len (e : OI.Env) : ∀ own : List Nat, (OI.wipe e own).length = e.length
  | [] => rfl
  | i :: own => by unfold OI.wipe; rw [List.length_set, wipe_len e own]
theorem wipe_get {i : Nat} {m : M} : ∀ {own : List Nat}, (OI.wipe e own)[i]? = some (some m) → e[i]? = some (some m) ∧ i ∉ own
  | [], h => ⟨h, by simp⟩
  | j :: own, h => by
    unfold OI.wipe at h
    by_cases z : j = i
    · subst z
      rw [List.getElem?_set] at h
      split at h
      · split at h <;> cases h
      · rename_i z; exact absurd rfl z
    · rw [List.getElem?_set_ne z] at h
      obtain ⟨h1, h2⟩ := wipe_get h
      exact ⟨h1, fun w => by
        rw [List.mem_cons] at w
        rcases w with w | w
        · exact z w.symm
        · exact h2 w⟩
theorem wipeS_get {i : Nat} {v : V} : ∀ {own : List Nat}, i ∉ own → σ[i]? = some (some v) → (L2.wipe σ own)[i]? = some (some v)
  | [], _, h => h
  | j :: own, hn, h => by
    rw [List.mem_cons, not_or] at hn
    unfold L2.wipe
    rw [List.getElem?_set_ne (fun z => hn.1 z.symm)]
    exact wipeS_get hn.2 h
theorem Rl.wiped (R : Rl c S e s σ2) {own : List Nat} (h : L2.wipe σ2 own = L2.wipe σ own) : Rl c S (OI.wipe e own) s (L2.wipe σ own) where
  toRlS := R.toRlS
  elen := by rw [wipe_len, R.elen, ← h, L2.wipe_length]
  slot := fun i m hi => by
    obtain ⟨h1, h2⟩ := wipe_get hi
    obtain ⟨v, h3, h4⟩ := R.slot i m h1
    exact ⟨v, by rw [← h]; exact wipeS_get h2 h3, h4⟩
theorem back_get {e0 : OI.Env} {i : Nat} {m : M} : ∀ {own : List Nat}, (back e0 e own)[i]? = some (some m) → (i ∈ own ∧ e0[i]? = some (some m)) ∨ (i ∉ own ∧ e[i]? = some (some m))
  | [], h => .inr ⟨by simp, h⟩
  | j :: own, h => by
    unfold back at h
    by_cases z : j = i
    · subst z
      rw [List.getElem?_set] at h
      rw [if_pos rfl] at h
      split at h
      · have h := Option.some.inj h
        refine .inl ⟨List.mem_cons_self .., ?_⟩
        rw [List.getD_eq_getElem?_getD] at h
        cases q : e0[j]? with
        | none => rw [q] at h; cases h
        | some o => rw [q] at h; rw [show o = some m from h]
      · cases h
    · rw [List.getElem?_set_ne z] at h
      rcases back_get h with ⟨h1, h2⟩ | ⟨h1, h2⟩
      · exact .inl ⟨List.mem_cons_of_mem _ h1, h2⟩
      · exact .inr ⟨fun w => by
          rw [List.mem_cons] at w
          rcases w with w | w
          · exact z w.symm
          · exact h1 w, h2⟩
theorem back_len (e0 e : OI.Env) : ∀ own : List Nat, (back e0 e own).length = e.length
  | [] => rfl
  | i :: own => by unfold back; rw [List.length_set, back_len e0 e own]
/-- behind the block -/
theorem Rl.backed {e1 : OI.Env} {own : List Nat} (R1 : Rl c S1 e1 s1 σ) (hw : wipeOk e1 own = true) (f : Fr S1 S) (R : Rl c S e s (L2.wipe σ own)) : Rl c S (back e1 e own) s σ where
  toRlS := R.toRlS
  elen := by rw [back_len, R.elen, L2.wipe_length]
  slot := fun i m hi => by
    rcases back_get hi with ⟨h1, h2⟩ | ⟨h1, h2⟩
    · obtain ⟨v, h3, h4⟩ := R1.slot i m h2
      refine ⟨v, h3, ?_⟩
      unfold wipeOk at hw
      rw [List.all_eq_true] at hw
      have := hw i h1
      rw [h2] at this
      cases m with
      | val d => exact RepD.mono f h4
      | ol xs => cases this
      | od t kvs => cases this
    · obtain ⟨v, h3, h4⟩ := R.slot i m h2
      exact ⟨v, (L2.wipe_some h3).1, h4⟩
/-- the list that is made, laid ahead of the walk -/
theorem lay_oth {p : Addr} {o : HO} (R : Rl c S e s σ) (hp : S.H p = none) (ho : HLo o) : Rl c (S.put p o (some .oth)) e s σ ∧ StE S (S.put p o (some .oth)) s s := by
  have al : Al S (S.put p o (some .tmp)) := Al.lay R.toRlS hp (.inr rfl) ho
  have R2 := al.rl R
  have ho2 : (S.put p o (some .tmp)).ow p = some .tmp := put_ow
  have e2 : (S.put p o (some .tmp)).lab p (some .oth) = S.put p o (some .oth) := by
    unfold Wd.lab Wd.put
    congr 1
    funext a
    by_cases z : a = p
    · rw [if_pos z, if_pos z]
    · rw [if_neg z, if_neg z]
      exact if_neg z
  rw [← e2]
  exact ⟨lab_tmp R2 ho2, (al.ste R.dom s).trans R.dom (lab_ste ho2)⟩
/-- .. and handed on when it is done -/
theorem oth_tmp {p : Addr} (R0 : RlS c S1 s1) (hp : S1.H p = none) {S2 : Wd} (R : Rl c S e s σ) (st : StE S1 S s1 s) (ho : S.ow p = some .oth) : Rl c (S.lab p (some .tmp)) e s σ ∧ StE S1 (S.lab p (some .tmp)) s1 s := by
  have ne : ∀ {a : Addr} {x : Pl}, S.ow a = some x → x ≠ .oth → a ≠ p := fun h1 h2 z => by subst z; rw [ho] at h1; cases h1; exact h2 rfl
  have old : ∀ {a : Addr}, S1.H a ≠ none → a ≠ p := fun h z => by subst z; exact h hp
  have oldq : ∀ {a : Addr} {q : Pl}, S1.ow a = some q → a ≠ p := fun h => old (R0.dom _ (by rw [h]; simp))
  refine ⟨R.step (lab_fr (by rw [ho]; simp)) (fun a x n hx hn => ⟨rfl, by rw [lab_ne (ne hx (fun z => by subst z; cases hn))]; exact hx⟩) (fun a i hx => ⟨rfl, by rw [lab_ne (ne hx (fun z => nomatch z))]; exact hx⟩) rfl (lab_dom R.dom (by rw [ho]; simp)) (lab_src R.src (by intro x hx; cases hx; rfl)) R.hl, ?_⟩
  refine ⟨⟨⟨fun a o h1 h2 => ?_, st.am⟩, st.ver, fun n en h1 h2 a q hq hn => ?_, fun a hq => ?_⟩, fun a i hq => ?_⟩
  · obtain ⟨x, y⟩ := st.keep a o h1 h2
    exact ⟨x, by rw [lab_ne (old (by rw [h1]; simp))]; exact y⟩
  · obtain ⟨x, y⟩ := st.ent n en h1 h2 a q hq hn
    exact ⟨x, by rw [lab_ne (oldq hq)]; exact y⟩
  · obtain ⟨x, y⟩ := st.oth a hq
    exact ⟨x, by rw [lab_ne (oldq hq)]; exact y⟩
  · obtain ⟨x, y⟩ := st.slot a i hq
    exact ⟨x, by rw [lab_ne (oldq hq)]; exact y⟩
/-- it is written -/
theorem oth_upd {p : Addr} {o : HO} (R : Rl c S e s σ) (h : S.ow p = some .oth) (ho : HLo o) : Rl c (S.upd p o) e s σ ∧ Fr S (S.upd p o) ∧ ∀ {S1 : Wd} {s1 : Store}, RlS c S1 s1 → S1.H p = none → StE S1 S s1 s → StE S1 (S.upd p o) s1 s := by
  have hH : ∀ {b : Addr}, b ≠ p → (S.upd p o).H b = S.H b := fun hb => upd_ne hb
  have ne : ∀ {b : Addr} {q : Pl}, S.ow b = some q → q ≠ .oth → b ≠ p := fun h1 h2 z => by subst z; rw [h] at h1; cases h1; exact h2 rfl
  have fr : Fr S (S.upd p o) := ⟨fun b u h1 h2 => ⟨by rw [hH (fun z => by subst z; rw [h] at h2; cases h2)]; exact h1, h2⟩, [], by simp [Wd.upd]⟩
  refine ⟨R.step fr (fun b q n h1 h2 => ⟨hH (ne h1 fun z => by subst z; cases h2), h1⟩) (fun b i h1 => ⟨hH (ne h1 fun z => nomatch z), h1⟩) rfl (fun b hb => ?_) R.src (R.hl.put ho), fr, fun {S1 s1} R0 hp st => ?_⟩
  · by_cases z : b = p
    · subst z
      show L2.upd S.H b o b ≠ none
      rw [upd_same]
      simp
    · rw [hH z]
      exact R.dom b hb
  · have old : ∀ {a : Addr}, S1.H a ≠ none → a ≠ p := fun h1 z => by subst z; exact h1 hp
    have oldq : ∀ {a : Addr} {q : Pl}, S1.ow a = some q → a ≠ p := fun h1 => old (R0.dom _ (by rw [h1]; simp))
    refine ⟨⟨⟨fun a u h1 h2 => ?_, st.am⟩, st.ver, fun n en h1 h2 a q hq hn => ?_, fun a hq => ?_⟩, fun a i hq => ?_⟩
    · obtain ⟨x, y⟩ := st.keep a u h1 h2
      exact ⟨by rw [hH (old (by rw [h1]; simp))]; exact x, y⟩
    · obtain ⟨x, y⟩ := st.ent n en h1 h2 a q hq hn
      exact ⟨by rw [hH (oldq hq)]; exact x, y⟩
    · obtain ⟨x, y⟩ := st.oth a hq
      exact ⟨by rw [hH (oldq hq)]; exact x, y⟩
    · obtain ⟨x, y⟩ := st.slot a i hq
      exact ⟨by rw [hH (oldq hq)]; exact x, y⟩
theorem tg_val {K : PySem.W.Frag} (hK : K = c.K) {t : Tg} {d : D} {v : V} {e2 : OI.Env} {Q : L2.St → Hp → Prop} (R : Rl c S e s σ) (r : RepD c S d v) (h : store t (.val d) e = some e2) (q : ∀ σ', Rl c S e2 s σ' → (∀ own : List Nat, (∀ i ∈ t.slots, i ∈ own) → L2.wipe σ' own = L2.wipe σ own) → Q σ' S.H) : gT K t v σ S.H Q := by
  cases t with
  | one i =>
    unfold store at h
    dsimp only at h
    split at h
    · rename_i hi
      cases h
      exact q _ (set_val R hi r) fun own ho => wipe_set (ho i (List.mem_cons_self ..))
    · cases h
  | many is =>
    unfold store at h
    dsimp only at h
    split at h
    · rename_i ds hd
      cases hd
      obtain ⟨p, vs, rfl, hf, rd⟩ := r
      obtain ⟨hl, hq⟩ := names_ok R rd h fun σ' R' hw => q σ' R' hw
      rw [hK]
      exact ⟨p, vs, rfl, hf.sq, hl, hq⟩
    · cases h
theorem wipe_wipe : ∀ (own : List Nat), L2.wipe (L2.wipe σ own) own = L2.wipe σ own := fun own => by
  have : ∀ (l : List Nat) (ρ : L2.St), (∀ i ∈ l, i ∈ own) → L2.wipe (L2.wipe ρ l) own = L2.wipe ρ own := by
    intro l
    induction l with
    | nil => intro ρ _; rfl
    | cons j l ih =>
      intro ρ h
      show L2.wipe ((L2.wipe ρ l).set j none) own = _
      rw [wipe_set (h j (List.mem_cons_self ..)), ih ρ fun i hi => h i (List.mem_cons_of_mem _ hi)]
  exact this own σ fun i hi => hi
/-- an element's value, no exception leaving -/
theorem valD_quiet {fa : OI.Env → Store → Res (M × Pl)} {α γ : Type} {k : D → OI.Env → Store → Res α} {rep' : Wd → Store → α → γ → Prop} {Q : γ → Hp → Prop} {rest : V → Hp → Prop} (Rr : Rl c S e s σ2)
    (h : PostG c W σ S1 s1 ((quiet (valD fa e s)).bind k) rep' Q) (hr : ∀ S2 e2 s2 d v, Rl c S2 e2 s2 σ2 → StE S S2 s s2 → RepD c S2 d v → PostG c W σ S1 s1 (k d e2 s2) rep' Q → rest v S2.H) : tE c WN fa σ2 S.H rest := by
  refine ⟨S, e, s, rfl, Rr, ?_⟩
  unfold valD at h
  cases w : fa e s with
  | ok x e1 s3 =>
    rw [w] at h
    intro S3 v R3 st3 rp3
    have h : PostG c W σ S1 s1 ((quiet ((vl x.1 x.2 e1 s3).bind fun m e2 s2 => .ok m.frz e2 s2)).bind k) rep' Q := h
    rcases vl_cases R3 rp3 with hb | ⟨S4, m, e2, he, R4, st4, hH, rp4⟩
    · rw [hb] at h
      exact h.elim
    · rw [he] at h
      obtain ⟨S5, R5, hH5, hd, st5⟩ := frz_ste R4 rp4
      rw [← hH, ← hH5]
      exact hr S5 e2 s3 m.frz v R5 ((st3.trans Rr.dom st4).trans Rr.dom st5) hd h
  | err k' e1 s3 => rw [w] at h; exact h.elim
  | bad => rw [w] at h; exact h.elim
end
section
variable {X : Cx} {c : Cn} {W : WX} {R : Runs}
abbrev tC (c : Cn) (W : WX) (f : OI.Env → Store → Res Bool) : TT := tG c W f fun _ => rB
theorem s_ifs0 : PTs X [] (tC c WN (evc R .no)) := ⟨fun pins s σ H Q I h => by
  obtain ⟨S, e, s', rfl, Rr, p⟩ := h
  exact pts_nil.run pins s σ S.H Q I (p S true Rr (StE.refl _ _) rfl)⟩
theorem s_ifs1 {a : Expr} {ia : IE} (h : PT X a (tT c WN (ev R ia))) : PTs X [a] (tC c WN (evc R (.yes ia))) := ⟨fun pins s σ H Q I q => (pts_one h).run pins s σ H Q I q⟩
theorem lc_weak {elt : IE} {t : Tg} {it : OI.It} {co : IO} {own : List Nat} {K : PySem.W.Frag} (hK : K = c.K) (ho : ∀ i ∈ t.slots, i ∈ own) {σ : L2.St} {H : Hp} {Q : VK} (q : tE c W (ev R (.lc elt t it co own)) σ H Q) :
    tLc (tI c W (evi R it)) (gT K t) (tC c WN (evc R co)) (tE c WN (ev R elt)) own σ H Q := by
  obtain ⟨S, e, s, rfl, Rr, p⟩ := q
  refine ⟨S, e, s, rfl, Rr, PostG.bind Rr.toRlS p fun x e1 s1 S1 J q1 R1 st1 rj p1 => ?_⟩
  unfold lcK at p1
  split at p1
  · rename_i hw
    obtain ⟨hw, hlim⟩ := hw
    intro Dd hD
    obtain ⟨R2, st2⟩ := lay_oth R1 hD (HLo.lst (xs := []) (Nat.zero_le _))
    refine ⟨fun i m H => m = x.1.length - i ∧ i ≤ x.1.length ∧ ∃ S e s acc vs, S.H = H ∧ Rl c S e s (L2.wipe σ own) ∧ StE S1 S s1 s ∧ S.ow Dd = some .oth ∧ S.H Dd = some (.lst vs) ∧ RepDs c S acc vs ∧ acc.length ≤ i ∧
      PostG c W σ S1 s1 ((lcL x.2 s1 own t (evc R co) (valD (ev R elt)) (x.1.drop i) acc e s).bind (lcEnd e1 own)) (rM c σ) Q,
      ⟨x.1.length, rfl, Nat.zero_le _, S1.put Dd (.lst []) (some .oth), OI.wipe e1 own, s1, [], [], rfl, R2.wiped rfl, st2, put_ow, put_H, rfl, Nat.zero_le _, p1⟩, ?_⟩
    rintro i m H2 ⟨rfl, hi, S2, e2, s2, acc, vs, rfl, R2, st2, hod, hHd, racc, hacc, p2⟩
    have walk : still x.2 s1 s2 = true → WalksAt c J x.1 S2 := fun k => rj [] S2 s2 (st2.sts []) k (by simp [apart]; intro w _; cases w <;> simp)
    by_cases hlt : i < x.1.length
    · rw [List.drop_eq_getElem_cons hlt] at p2
      unfold lcL at p2
      split at p2
      · rename_i hst
        have hg := walk hst
        have hd : x.1[i]? = some x.1[i] := List.getElem?_eq_getElem hlt
        split at p2
        · exact p2.elim
        · rename_i e3 he3
          rw [Res.bind_bind] at p2
          refine .inr ⟨hg.go i _ hd, fun H' => (i + 1) ≤ x.1.length ∧ ∃ S e s acc vs, S.H = H' ∧ Rl c S e s (L2.wipe σ own) ∧ StE S1 S s1 s ∧ S.ow Dd = some .oth ∧ S.H Dd = some (.lst vs) ∧ RepDs c S acc vs ∧ acc.length ≤ i + 1 ∧
            PostG c W σ S1 s1 ((lcL x.2 s1 own t (evc R co) (valD (ev R elt)) (x.1.drop (i + 1)) acc e s).bind (lcEnd e1 own)) (rM c σ) Q, fun H' ⟨h1, h2⟩ => ⟨x.1.length - (i + 1), by omega, rfl, h1, h2⟩, fun y H' hy => ?_⟩
          obtain ⟨S3, al, hH, rd⟩ := hg.yld i _ s2 y H' hd R2.toRlS hy
          subst hH
          have R3 := al.rl R2
          have a3 := al.at R2.dom hod
          have st3 := st2.trans R1.dom (al.ste R2.dom s2)
          refine tg_val hK R3 rd he3 fun σ4 R4 hwp => ?_
          have hwp := (hwp own ho).trans (wipe_wipe own)
          refine ⟨hwp, S3, e3, s2, rfl, R4, quiet_ok p2 fun b e5 s5 S5 b' q5 R5 st5 rb p5 => ?_⟩
          cases rb
          have a5 := st5.oth Dd a3.2
          have st15 := st3.trans R1.dom st5
          have r5 : RepDs c S5 acc vs := (racc.mono al.fr).mono st5.toFr
          have h5 : S5.H Dd = some (.lst vs) := by rw [a5.1, a3.1]; exact hHd
          cases b with
          | true =>
            rw [if_pos rfl] at p5 ⊢
            rw [Res.bind_bind] at p5
            refine valD_quiet R5 p5 fun S6 e6 s6 d v R6 st6 rd6 p6 => ?_
            have a6 := st6.oth Dd a5.2
            have h6 : S6.H Dd = some (.lst vs) := by rw [a6.1]; exact h5
            have hl := racc.length
            have hlen : (vs ++ [v]).length ≤ 16777216 := by
              rw [List.length_append, List.length_singleton, hl]
              have : x.1.length ≤ 16777216 := hlim
              omega
            obtain ⟨R7, fr7, st7⟩ := oth_upd R6 a6.2 (HLo.lst hlen)
            refine ⟨vs, h6, ?_, hlt, S6.upd Dd (.lst (vs ++ [v])), _, s6, acc ++ [d], vs ++ [v], rfl, R7.wiped hwp, st7 R1.toRlS hD (st15.trans R1.dom st6), a6.2, upd_same, ((r5.mono st6.toFr).mono fr7).append ⟨v, [], rfl, rd6.mono fr7, rfl⟩, ?_, p6⟩
            · rw [hl, sizeLine_eq]
              have : x.1.length ≤ 16777216 := hlim
              omega
            · rw [List.length_append, List.length_singleton]
              omega
          | false =>
            rw [if_neg Bool.false_ne_true] at p5 ⊢
            exact ⟨hlt, S5, _, s5, acc, vs, rfl, R5.wiped hwp, st15, a5.2, h5, r5, by omega, p5⟩
      · exact p2.elim
    · have hie : i = x.1.length := by omega
      subst hie
      rw [List.drop_length] at p2
      unfold lcL at p2
      split at p2
      · rename_i hst
        have hg := walk hst
        refine .inl ⟨hg.stop _ (Nat.le_refl _), ?_⟩
        have Rb := R1.backed hw st2.toFr R2
        obtain ⟨R3, st3⟩ := oth_tmp (S2 := S2) R1.toRlS hD Rb st2 hod
        exact p2 (S2.lab Dd (some .tmp)) (.ref Dd) R3 st3 ⟨⟨Dd, vs, rfl, hHd, lab_same, racc.mono (lab_fr (by rw [hod]; simp))⟩, trivial⟩
      · exact p2.elim
  · exact p1.elim
end
end OI

/-! OIt: a container shared; a def by its body. -/
namespace OI
open PySem PySem.Spec PyProof.Rows L2
section
variable {c : Cn} {S S1 : Wd} {s : Store} {e : OI.Env} {σ : L2.St}
/-- one more object of the store -/
theorem grow {p : Addr} {o : SObj} (R : Rl c S e s σ) (h : S.ow p = some .tmp) (ho : ∀ S', S'.H = S.H → Fr S S' → RepO c S' s.length p o) : ∃ S', S'.H = S.H ∧ S'.am[s.length]? = some p ∧ Rl c S' e (s ++ [⟨o, 0⟩]) σ ∧ StE S S' s (s ++ [⟨o, 0⟩]) := by
  have len := R.len
  refine ⟨⟨S.am ++ [p], fun a => if a = p then some (.obj s.length) else S.ow a, S.H⟩, rfl, ?_, ?_⟩
  · show (S.am ++ [p])[s.length]? = some p
    rw [← len]
    simp
  have owp : ∀ {a : Addr}, a ≠ p → (if a = p then some (Pl.obj s.length) else S.ow a) = S.ow a := fun h => if_neg h
  have ne : ∀ {a : Addr} {x : Pl}, S.ow a = some x → x ≠ .tmp → a ≠ p := fun h1 h2 z => by subst z; rw [h] at h1; cases h1; exact h2 rfl
  have fr : Fr S ⟨S.am ++ [p], fun a => if a = p then some (.obj s.length) else S.ow a, S.H⟩ := ⟨fun a u h1 h2 => ⟨h1, (owp (fun z => by subst z; rw [h] at h2; cases h2)).trans h2⟩, [p], rfl⟩
  have ver : VerS s (s ++ [⟨o, 0⟩]) := fun n en hn => ⟨en, by rw [List.getElem?_append_left (List.getElem?_eq_some_iff.mp hn).1]; exact hn, Nat.le_refl _, fun _ => rfl⟩
  refine ⟨⟨⟨by show (S.am ++ [p]).length = _; rw [List.length_append, List.length_append, len]; rfl, fun n en hn => ?_, fun a ha => ?_, fun a q n h1 h2 => ?_, R.hl⟩, R.elen, fun i m hi => ?_⟩, ⟨⟨fr, ver, fun n en h1 h2 a q hq hn => ⟨rfl, (owp (ne hq (fun z => by subst z; cases hn))).trans hq⟩, fun a hq => ⟨rfl, (owp (ne hq (fun z => nomatch z))).trans hq⟩⟩, fun a i hq => ⟨rfl, .inl ((owp (ne hq (fun z => nomatch z))).trans hq)⟩⟩⟩
  · by_cases hlt : n < s.length
    · rw [List.getElem?_append_left hlt] at hn
      obtain ⟨a, h1, h2, h3⟩ := R.obj n en hn
      refine ⟨a, fr.amAt h1, (owp (ne h2 (fun z => nomatch z))).trans h2, h3.step fr rfl fun b g hb => ⟨rfl, (owp (ne hb (fun z => nomatch z))).trans hb⟩⟩
    · have hlt2 := (List.getElem?_eq_some_iff.mp hn).1
      rw [List.length_append, List.length_singleton] at hlt2
      have : n = s.length := by omega
      subst this
      rw [List.getElem?_append_right (Nat.le_refl _), Nat.sub_self] at hn
      cases hn
      refine ⟨p, ?_, if_pos rfl, ho _ rfl fr⟩
      show (S.am ++ [p])[s.length]? = some p
      rw [← len]
      simp
  · by_cases z : a = p
    · subst z
      exact R.dom a (by rw [h]; simp)
    · have ha : (if a = p then some (Pl.obj s.length) else S.ow a) ≠ none := ha
      rw [owp z] at ha
      exact R.dom a ha
  · have h1 : (if a = p then some (Pl.obj s.length) else S.ow a) = some q := h1
    rw [List.length_append, List.length_singleton]
    by_cases z : a = p
    · rw [if_pos z] at h1
      cases h1
      cases h2
      omega
    · rw [owp z] at h1
      have := R.src a q n h1 h2
      omega
  · obtain ⟨v, h1, h2⟩ := R.slot i m hi
    exact ⟨v, h1, h2.step fr fun b hb => ⟨rfl, (owp (ne hb (fun z => nomatch z))).trans hb⟩⟩
variable {X : Cx} {W : WX} {R : Runs} {a : Expr} {ia : IE}
theorem share_weak {σ : L2.St} {H : Hp} {Q : VK} (q : tE c W (ev R (.share ia)) σ H Q) : tE c W (ev R ia) σ H Q := by
  obtain ⟨S, e, s, rfl, Rr, p⟩ := q
  refine ⟨S, e, s, rfl, Rr, PostG.bind Rr.toRlS p fun x e1 s1 S1 v q1 R1 st1 rp1 p1 => ?_⟩
  obtain ⟨m, pl⟩ := x
  obtain ⟨r1, r2⟩ := rp1
  unfold shareK at p1
  cases pl with
  | tmp =>
    cases m with
    | val d => exact p1 S1 v R1 (StE.refl _ _) ⟨r1, trivial⟩
    | ol xs =>
      obtain ⟨p, vs, ev, h1, h2, h3⟩ := r1
      obtain ⟨S', hH, ha, R', st⟩ := grow (o := .lst xs) R1 h2 fun S' hH f => ⟨vs, by rw [hH]; exact h1, h3.mono f⟩
      have := p1 S' v R' st ⟨⟨p, ev, ha⟩, trivial⟩
      rw [hH] at this
      exact this
    | od t kvs =>
      obtain ⟨p, vs, ev, h1, h2, h3⟩ := r1
      obtain ⟨S', hH, ha, R', st⟩ := grow (o := .dic t kvs) R1 h2 fun S' hH f => ⟨vs, by rw [hH]; exact h1, h3.mono f⟩
      have := p1 S' v R' st ⟨⟨p, ev, ha⟩, trivial⟩
      rw [hH] at this
      exact this
  | _ => exact p1.elim
theorem s_share (ha : PE X a (tE c W (ev R ia))) : PE X a (tE c W (ev R (.share ia))) := ha.weak fun σ H Q q => share_weak q
end
end OI

/-! OIu: a product; a def by its body. -/
namespace OI
open PySem PySem.Spec PyProof.Rows L2
section
variable {X : Cx} {c : Cn}
theorem len_rep {α : Type} (xs : List α) : ∀ k : Nat, (List.replicate k xs).flatten.length = k * xs.length
  | 0 => by simp
  | k + 1 => by rw [List.replicate_succ, List.flatten_cons, List.length_append, len_rep xs k, Nat.succ_mul, Nat.add_comm]
theorem v_mul (hK : X.K = c.K) : OpR X (binaryOp .Mult) (R2of c (bin .mul)) := by
  intro pins sh σ H x y v u Q I rx ry h
  obtain ⟨S, s, m1, m2, m, rfl, Rr, r1, r2, hm, q⟩ := h
  have lst : ∀ {xs : List D} {k : Int}, m1.lst1? = some xs → m2 = .val (.int k) → (0 ≤ k ∧ k < 2 ^ 62 ∧ xs.length * k.toNat ≤ LIM) → m = .ol (List.replicate k.toNat xs).flatten → wpAny (model X.prog X.w) X.A (binaryOp .Mult v u) (EP X pins σ Q) X.xe sh := fun {xs k} hx e2 hk em => by
    subst e2 em
    obtain ⟨p, vs, rfl, hl, rd⟩ := lst1_of hx r1
    obtain ⟨k1, k2, k3⟩ := hk
    have hv := rd.length
    have hlen : (List.replicate k.toNat vs).flatten.length ≤ 16777216 := by
      rw [len_rep, Nat.mul_comm, hv]
      exact k3
    refine op_rep pins sh σ S.H _ y v u Q I rx ry ⟨p, k, vs, rfl, r2, hl, by omega, by omega, by rw [hv]; exact lim_le k3, fun a na => ?_⟩
    obtain ⟨S', al, hH, rp⟩ := new_lst Rr na (rd.flatten k.toNat) hlen
    rw [← hH]
    exact q S' _ al rp
  replace hm : mulM m1 m2 = some m := hm
  unfold mulM at hm
  split at hm
  · rename_i i j
    split at hm
    · rename_i hc
      cases hm
      refine op_mul pins sh σ S.H x y v u Q I rx ry ⟨i, j, r1, r2, hc, q S _ (Al.refl Rr) rfl⟩
    · cases hm
  · rename_i xs k
    split at hm
    · rename_i hk
      cases hm
      obtain ⟨k1, k2, k3, k4⟩ := hk
      obtain ⟨p, vs, rfl, hf, rd⟩ := r1
      have hv := rd.length
      have hne : vs ≠ [] := fun z => by
        rw [z] at hv
        simp at hv
        omega
      have hlen : (List.replicate k.toNat vs).flatten.length ≤ 16777216 := by
        rw [len_rep, hv]
        have : k.toNat ≤ 1000 := by omega
        calc k.toNat * xs.length ≤ 1000 * 1000 := Nat.mul_le_mul this k4
          _ ≤ 16777216 := by omega
      refine op_repT pins sh σ S.H _ y v u Q I rx ry ⟨p, k, vs, rfl, r2, by rw [hK]; exact hf.sq, hne, k1, k2, by rw [hv]; exact k4, fun a na => ?_⟩
      obtain ⟨S', al, hH, rp⟩ := new_tup Rr na (rd.flatten k.toNat) hlen
      rw [← hH]
      exact q S' _ al rp
    · cases hm
  · rename_i k hx hy
    split at hm
    · rename_i xs hl
      split at hm
      · rename_i hk
        cases hm
        exact lst hl rfl hk rfl
      · cases hm
    · cases hm
  · cases hm
/-- a test of what is none of the special forms -/
def plainT : Expr → Bool
  | .UnaryOp .Not _ _ => false
  | .BoolOp _ _ _ => false
  | .IfExp _ _ _ _ => false
  | .Compare _ _ _ _ => false
  | _ => true
theorem plain_test {a : Expr} (h : plainT a = true) (env : PySem.Env) (whole : Sem Value) : isTrue a env whole = (do let v ← whole; standAt a.pos; holding [v] (truthy v)) := by
  cases a with
  | UnaryOp op _ _ => cases op <;> first | rfl | cases h
  | BoolOp => cases h
  | IfExp => cases h
  | Compare => cases h
  | _ => rfl
theorem noBool {a : Expr} (h : plainT a = true) {W : WX} {f : OI.Env → Store → Res (M × Pl)} : ∀ op vs pos, a = .BoolOp op vs pos → PW X a (tT c W f) := fun op vs pos e => by subst e; cases h
theorem se_of {a : Expr} {W : WX} {f : OI.Env → Store → Res (M × Pl)} (h : plainT a = true) (he : PE X a (tE c W f)) : SE X c W a f := ⟨he, pt_of_pe he fun w => plain_test h X.env w, noBool h⟩
end

/-! ### what a call leaves -/
section
variable {c : Cn}
mutual
theorem RepD.trunc {S' S'' : Wd} {n : Nat} (hH : S''.H = S'.H) (how : ∀ a, S'.ow a = none → S''.ow a = none) (ham : ∀ k, k < n → S''.am[k]? = S'.am[k]?) : ∀ {d : D} {v : V}, D.locsLt n d = true → RepD c S' d v → RepD c S'' d v
  | .non, _, _, h => h
  | .bl _, _, _, h => h
  | .int _, _, _, h => h
  | .str _, _, _, h => h
  | .tup xs, _, hl, ⟨p, vs, e, h1, h2⟩ => ⟨p, vs, e, h1.elim (fun h => .inl ⟨by rw [hH]; exact h.1, how _ h.2⟩) .inr, RepDs.trunc hH how ham hl h2⟩
  | .lst xs, _, hl, ⟨p, vs, e, h1, h2, h3⟩ => ⟨p, vs, e, by rw [hH]; exact h1, how _ h2, RepDs.trunc hH how ham hl h3⟩
  | .dic t kvs, _, hl, ⟨p, vs, e, h1, h2, h3⟩ => ⟨p, vs, e, by rw [hH]; exact h1, how _ h2, RepKs.trunc hH how ham hl h3⟩
  | .scr ns, _, _, ⟨p, e, h⟩ => ⟨p, e, h.elim (fun h => .inl ⟨by rw [hH]; exact h.1, how _ h.2⟩) .inr⟩
  | .loc k, _, hl, ⟨a, e, h⟩ => ⟨a, e, by rw [ham k (of_decide_eq_true hl)]; exact h⟩
  | .exn _, _, _, h => h
  | .lam _ _, _, _, h => False.elim h
theorem RepDs.trunc {S' S'' : Wd} {n : Nat} (hH : S''.H = S'.H) (how : ∀ a, S'.ow a = none → S''.ow a = none) (ham : ∀ k, k < n → S''.am[k]? = S'.am[k]?) : ∀ {d : List D} {v : List V}, D.locsLts n d = true → RepDs c S' d v → RepDs c S'' d v
  | [], _, _, h => h
  | d :: ds, _, hl, ⟨v, r, e, h1, h2⟩ => by
    unfold D.locsLts at hl
    rw [Bool.and_eq_true] at hl
    exact ⟨v, r, e, RepD.trunc hH how ham hl.1 h1, RepDs.trunc hH how ham hl.2 h2⟩
theorem RepKs.trunc {S' S'' : Wd} {n : Nat} (hH : S''.H = S'.H) (how : ∀ a, S'.ow a = none → S''.ow a = none) (ham : ∀ k, k < n → S''.am[k]? = S'.am[k]?) {t : Bool} : ∀ {d : List (D × D)} {v : List V}, D.locsLtk n d = true → RepKs c S' t d v → RepKs c S'' t d v
  | [], _, _, h => h
  | (k, d) :: ds, _, hl, ⟨v, r, e, h0, h1, h2⟩ => by
    unfold D.locsLtk at hl
    rw [Bool.and_eq_true, Bool.and_eq_true] at hl
    exact ⟨v, r, e, h0, RepD.trunc hH how ham hl.1.2 h1, RepKs.trunc hH how ham hl.2 h2⟩
end
def dropP (n : Nat) (q : Option Pl) : Option Pl :=
  match q with
  | some (.fld k f) => if k < n then some (.fld k f) else some .oth
  | some (.obj k) => if k < n then some (.obj k) else some .oth
  | some (.slot _) => some .oth
  | x => x
theorem dropP_none {n : Nat} {q : Option Pl} : dropP n q = none ↔ q = none := by
  cases q with
  | none => simp [dropP]
  | some p => cases p <;> simp [dropP] <;> split <;> simp
theorem dropP_src {n k : Nat} {p : Pl} (h : p.src = some k) (hk : k < n) : dropP n (some p) = some p := by
  cases p with
  | fld j f => cases h; simp [dropP, hk]
  | obj j => cases h; simp [dropP, hk]
  | _ => cases h
theorem gc_ok {S S' : Wd} {s s' : Store} {m : M} {v : V} (R0 : RlS c S s) (ns : NoSl S) (R' : RlS c S' s') (st : StC S S' s s') (r : RepM c S' .tmp m v) :
    ∃ S'', S''.H = S'.H ∧ RlS c S'' (gc s m s') ∧ StC S S'' s (gc s m s') ∧ NoSl S'' ∧ RepM c S'' .tmp m v := by
  unfold gc
  split
  · rename_i hg
    obtain ⟨hs, hl⟩ := hg
    have same : ∀ n en, s[n]? = some en → s'[n]? = some en := fun n en h => by
      have hlt := (List.getElem?_eq_some_iff.mp h).1
      have : (s'.take s.length)[n]? = s'[n]? := List.getElem?_take_of_lt hlt
      rw [hs] at this
      rw [← this]
      exact h
    have ent : ∀ p q n, S.ow p = some q → q.src = some n → S'.H p = S.H p ∧ S'.ow p = some q ∧ n < s.length := fun p q n h1 h2 => by
      have hlt := R0.src p q n h1 h2
      have he := List.getElem?_eq_getElem hlt
      obtain ⟨x, y⟩ := st.ent n _ he (same n _ he) p q h1 h2
      exact ⟨x, y, hlt⟩
    have fr : Fr S ⟨S.am, fun a => dropP s.length (S'.ow a), S'.H⟩ := ⟨fun a o h1 h2 => by
      obtain ⟨x, y⟩ := st.keep a o h1 h2
      exact ⟨x, dropP_none.mpr y⟩, [], by simp⟩
    have k : ∀ p q n, S.ow p = some q → q.src = some n → S'.H p = S.H p ∧ dropP s.length (S'.ow p) = some q := fun p q n h1 h2 => by
      obtain ⟨x, y, z⟩ := ent p q n h1 h2
      exact ⟨x, by rw [y]; exact dropP_src h2 z⟩
    refine ⟨⟨S.am, fun a => dropP s.length (S'.ow a), S'.H⟩, rfl, R0.step fr k rfl (fun a ha => R'.dom a fun z => ha (dropP_none.mpr z)) (fun a q n h1 h2 => ?_) R'.hl, ⟨fr, VerS.refl s, fun n en _ _ a p h1 h2 => k a p n h1 h2, fun a ha => ?_⟩, fun a i ha => ?_, ?_⟩
    · have h1 : dropP s.length (S'.ow a) = some q := h1
      cases e : S'.ow a with
      | none => rw [e] at h1; cases h1
      | some p =>
        rw [e] at h1
        cases p with
        | fld j f =>
          unfold dropP at h1
          dsimp only at h1
          split at h1
          · cases h1; cases h2; assumption
          · cases h1; cases h2
        | obj j =>
          unfold dropP at h1
          dsimp only at h1
          split at h1
          · cases h1; cases h2; assumption
          · cases h1; cases h2
        | slot j => cases h1; cases h2
        | tmp => cases h1; cases h2
        | oth => cases h1; cases h2
    · obtain ⟨x, y⟩ := st.oth a ha
      exact ⟨x, by show dropP s.length (S'.ow a) = _; rw [y]; rfl⟩
    · have ha : dropP s.length (S'.ow a) = some (.slot i) := ha
      cases e : S'.ow a with
      | none => rw [e] at ha; cases ha
      | some p =>
        rw [e] at ha
        cases p <;> unfold dropP at ha <;> dsimp only at ha <;> first | cases ha | (split at ha <;> cases ha)
    · have how : ∀ a, S'.ow a = none → dropP s.length (S'.ow a) = none := fun a h => dropP_none.mpr h
      have ham : ∀ j, j < s.length → S.am[j]? = S'.am[j]? := fun j hj => by
        obtain ⟨more, e⟩ := st.am
        rw [e, List.getElem?_append_left (by rw [R0.len]; exact hj)]
      cases m with
      | val d => exact RepD.trunc (S' := S') (S'' := ⟨S.am, fun a => dropP s.length (S'.ow a), S'.H⟩) rfl how ham hl r
      | ol xs =>
        obtain ⟨p, vs, e, h1, h2, h3⟩ := r
        exact ⟨p, vs, e, h1, by show dropP _ (S'.ow p) = _; rw [h2]; rfl, RepDs.trunc (S' := S') (S'' := ⟨S.am, fun a => dropP s.length (S'.ow a), S'.H⟩) rfl how ham hl h3⟩
      | od t kvs =>
        obtain ⟨p, vs, e, h1, h2, h3⟩ := r
        exact ⟨p, vs, e, h1, by show dropP _ (S'.ow p) = _; rw [h2]; rfl, RepKs.trunc (S' := S') (S'' := ⟨S.am, fun a => dropP s.length (S'.ow a), S'.H⟩) rfl how ham hl h3⟩
  · have sim := mask_sim S'
    refine ⟨S'.mask, rfl, sim.rls R', ⟨st.toFr.trans sim.fr, st.ver, fun n en h1 h2 a p h3 h4 => ?_, fun a ha => ?_⟩, mask_noSl S', sim.repM r fun p hp => ?_⟩
    · obtain ⟨x, y⟩ := st.ent n en h1 h2 a p h3 h4
      exact ⟨x, by rw [mask_ne (fun i z => by rw [y] at z; cases z; cases h4)]; exact y⟩
    · obtain ⟨x, y⟩ := st.oth a ha
      exact ⟨x, by rw [mask_ne (fun i z => by rw [y] at z; cases z)]; exact y⟩
    · rw [mask_ne (fun i z => by rw [hp] at z; cases z)]
      exact hp
theorem begun_rl {S : Wd} {s : Store} {fn : Fn} {ds : List D} {vs : List V} {N : List Str} (R : RlS c S s) (r : RepDs c S ds vs) (hn : fn.ns = N.length) (hl : ds.length ≤ fn.ns) : Rl c S (begun fn ds) s (L2.start N vs) where
  toRlS := R
  elen := by
    unfold begun L2.start
    rw [List.length_append, List.length_append, List.length_map, List.length_map, List.length_replicate, List.length_replicate, r.length, hn]
  slot := fun i m hi => by
    unfold begun at hi
    have hlt : i < ds.length := by
      by_cases h : i < ds.length
      · exact h
      · rw [List.getElem?_append_right (by rw [List.length_map]; omega), List.getElem?_replicate] at hi
        split at hi <;> cases hi
    rw [List.getElem?_append_left (by rw [List.length_map]; exact hlt), List.getElem?_map] at hi
    cases e : ds[i]? with
    | none => rw [e] at hi; cases hi
    | some d =>
      rw [e] at hi
      cases hi
      obtain ⟨v, hv, rd⟩ := r.get e
      refine ⟨v, ?_, rd⟩
      unfold L2.start
      rw [List.getElem?_append_left (by rw [List.length_map, r.length]; exact hlt), List.getElem?_map, hv]
      rfl
/-- what the body is asked, from the def's promise -/
theorem body_of {ws : List Nat} {R : Runs} {n : Nat} {fn : Fn} {S : Wd} {s : Store} {ds : List D} {vs : List V} {N : List Str} {Q : VK} {E : XK} (R0 : RlS c S s) (ns : NoSl S) (r : RepDs c S ds vs) (hn : fn.ns = N.length) (hl : ds.length ≤ fn.ns)
    (p : PostF c S s (fin s (execs R n fn.body (begun fn ds) s)) Q E) : tS c (fun cls d _ H => E cls d H) ws (execs R n fn.body) { nx := fun _ H' => Q .non H', rt := Q } (L2.start N vs) S.H := by
  refine ⟨S, begun fn ds, s, rfl, begun_rl R0 r hn hl, ?_⟩
  cases h : execs R n fn.body (begun fn ds) s with
  | ok f e' s' =>
    rw [h] at p
    cases f with
    | nx =>
      intro S' σ' R' st
      obtain ⟨S'', hH, R'', st'', ns'', rp⟩ := gc_ok (m := .val .non) (v := .non) R0 ns R'.toRlS st.toStC rfl
      have := p S'' .non R'' st'' ns'' rp
      rw [hH] at this
      exact this
    | ret m =>
      intro S' v R' st rp
      obtain ⟨S'', hH, R'', st'', ns'', rp⟩ := gc_ok R0 ns R' st rp
      have := p S'' v R'' st'' ns'' rp
      rw [hH] at this
      exact this
  | err k e' s' =>
    rw [h] at p
    intro S' σ' R' st
    obtain ⟨S'', hH, R'', st'', ns'', rp⟩ := gc_ok (m := .val .non) (v := .non) R0 ns R'.toRlS st.toStC rfl
    have := p S'' R'' st'' ns''
    rw [hH] at this
    exact this
  | bad => rw [h] at p; exact p
/-- A DEF OF THE TEXT: its promise, from its body -/
theorem def_ok {P : Program} {w : World} {K : PySem.W.Frag} {mg : Str → Option Value} {base : Heap} {x qual : Str} {st : Stmt} {f : Addr} {fd : FuncData} {N ps : List Str} {k n m : Nat} {Pg : Prog} {name : String} {fn : Fn} {ws : List Nat} (F : L2.Fun K x qual st f fd) (Sc : FnScope N ps (defScope st))
    (hf : look Pg name = some fn) (hnp : ps.length = fn.np) (hns : fn.ns = N.length)
    (hbody : ∀ (cdv : Value) (A : Around) (outer : List PySem.Env) (s : Shared) (H : Hp) (E : XK), Room k (A.deeper (envOfC qual (defScope st) s.heap.objs.size f cdv)) →
      PSs (cxOf (L2.CX P w) P w K mg base N qual (defScope st) f cdv A outer s H E) (defBody st) (tS c (fun cls d _ H => E cls d H) ws (execs (run Pg m n) m fn.body))) :
    FnOk P w K mg base (L2.CX P w) (k + 1) f fd ps (spF c (run Pg m (n + 1)) name fn.np) := by
  refine F.okX Sc (fun vs H Q E h => ?_) fun cdv A outer s H vs Q E hr h => ⟨_, hbody cdv A outer s H E hr, ?_⟩
  · obtain ⟨S, s, ds, _, _, _, r, hl, _⟩ := h
    rw [r.length, hl, hnp]
  · obtain ⟨S, s, ds, rfl, R0, ns, r, hl, p⟩ := h
    unfold run at p
    rw [hf] at p
    dsimp only at p
    split at p
    · rename_i hh
      exact body_of R0 ns r hns (by omega) p
    · exact p.elim
end
end OI

/-! OIv: whether a text of mine is the text of the row: expressions. -/
namespace OI
open PySem PySem.Spec PyProof.Rows L2

/-- where code stands: the slots' names, the scope, the defs it may call, the built-ins it may use -/
structure Ck where
  N : List Str
  sc : Scope
  fns : List (String × Nat)
  blts : List String
structure CkOk (k : Ck) (X : Cx) (c : Cn) (R : Runs) : Prop where
  N : X.N = k.N
  nd : k.N.Nodup
  sc : X.env.scope = k.sc
  K : X.K = c.K
  calm : X.calm = true
  un : X.A.units + 65 < cLine
  fn : ∀ f np, (f, np) ∈ k.fns → ∃ j, FnI X c R j f np ∧ Room j X.A
  blt : ∀ x ∈ k.blts, X.mg (Str.ofString x) = none

def visC (sc : Scope) (x : Str) : Bool := match sc.names.lookup x with
  | some .local => true
  | some .cell => true
  | some .free => true
  | _ => false
def locC (sc : Scope) (x : Str) : Bool := match sc.names.lookup x with
  | some .local => true
  | some .cell => true
  | _ => false
def glC (sc : Scope) (x : Str) : Bool := match sc.names.lookup x with
  | some .globalImplicit => true
  | _ => false
theorem visC_ok {sc : Scope} {x : Str} (h : visC sc x = true) : Vis sc x := by
  unfold visC at h
  split at h
  · exact .inl (by assumption)
  · exact .inr (.inl (by assumption))
  · exact .inr (.inr (by assumption))
  · cases h
theorem locC_ok {sc : Scope} {x : Str} (h : locC sc x = true) : Loc sc x := by
  unfold locC at h
  split at h
  · exact .inl (by assumption)
  · exact .inr (by assumption)
  · cases h
def plainName (x : Str) : Bool := !(x == ("__debug__" : Str)) && !(x == ("__classdict__" : Str)) && !(x == ("__name__" : Str))
theorem plainName_ok {x : Str} (h : plainName x = true) : (x == ("__debug__" : Str)) = false ∧ (x == ("__classdict__" : Str)) = false ∧ x ≠ "__name__" := by
  unfold plainName at h
  simp only [Bool.and_eq_true, Bool.not_eq_true'] at h
  exact ⟨h.1.1, h.1.2, fun e => by have := h.2; rw [e] at this; simp at this⟩
/-- x names the built-in b -/
def bltC (k : Ck) (b : String) (x : Str) : Bool := decide (x = Str.ofString b) && k.blts.contains b && glC k.sc x && plainName x
theorem glC_ok {k : Ck} {X : Cx} {c : Cn} {R : Runs} (ok : CkOk k X c R) {x : Str} (h : glC k.sc x = true) : Gl X x := by
  unfold glC at h
  split at h
  · show X.env.scope.names.lookup x = _
    rw [ok.sc]
    assumption
  · cases h
structure BltOk (X : Cx) (b : String) (x : Str) : Prop where
  eq : x = Str.ofString b
  gl : Gl X x
  mg : X.mg x = none
  nn : x ≠ "__name__"
  nd : (x == ("__debug__" : Str)) = false
theorem bltC_ok {k : Ck} {X : Cx} {c : Cn} {R : Runs} (ok : CkOk k X c R) {b : String} {x : Str} (h : bltC k b x = true) : BltOk X b x := by
  unfold bltC at h
  simp only [Bool.and_eq_true, decide_eq_true_eq] at h
  obtain ⟨⟨⟨h1, h2⟩, h3⟩, h4⟩ := h
  have hp := plainName_ok h4
  exact ⟨h1, glC_ok ok h3, by rw [h1]; exact ok.blt b (by simpa using h2), hp.2.2, hp.1⟩
def binC : BOp → Operator → Bool
  | .add, .Add => true
  | .sub, .Sub => true
  | .mul, .Mult => true
  | .fdiv, .FloorDiv => true
  | .mod, .Mod => true
  | .pow, .Pow => true
  | _, _ => false
theorem binC_ok {X : Cx} {c : Cn} (hK : X.K = c.K) {op : BOp} {o : Operator} (h : binC op o = true) : OpR X (binaryOp o) (R2of c (bin op)) := by
  cases op <;> cases o <;> first | (cases h; done) | exact v_add hK | exact v_sub | exact v_mul hK | exact v_fdiv | exact v_mod | exact v_pow
def cmpC : COp → CmpOp → Bool
  | .eq, .Eq => true
  | .ne, .NotEq => true
  | .lt, .Lt => true
  | .le, .LtE => true
  | .gt, .Gt => true
  | .ge, .GtE => true
  | .isin, .In => true
  | .nin, .NotIn => true
  | _, _ => false
theorem cmpC_ok {X : Cx} {c : Cn} (hK : X.K = c.K) (hu : X.A.units + 65 < cLine) {op : COp} {o : CmpOp} (h : cmpC op o = true) : OpR X (compareOp o) (R2b c (cmp op)) := by
  cases op <;> cases o <;> first | (cases h; done) | exact v_eq hK (by omega) | exact v_ne hK (by omega) | exact v_lt | exact v_le | exact v_gt | exact v_ge | exact v_in hK hu | exact v_nin hK hu
/-- the built-in names of types -/
def tyC (k : Ck) (t : Ty) (e : Expr) : Bool := match e with
  | .Name x _ => match t.name? with
    | some n => bltC k n x
    | none => false
  | _ => false
def tysC (k : Ck) : List Ty → List Expr → Bool
  | [], [] => true
  | t :: ts, e :: es => tyC k t e && tysC k ts es
  | _, _ => false
theorem bootTy {t : Ty} {n : String} (h : t.name? = some n) : bootBuiltins (Str.ofString n) = some (.type n) := by
  cases t <;> cases h <;> decide +kernel
theorem tysC_ok {k : Ck} {X : Cx} {c : Cn} {R : Runs} (ok : CkOk k X c R) : ∀ {ts : List Ty} {es : List Expr}, tysC k ts es = true → ∃ ns, TyNames X es ns ∧ ts.mapM Ty.name? = some ns ∧ ns.length = ts.length
  | [], [], _ => ⟨[], .nil, rfl, rfl⟩
  | t :: ts, e :: es, h => by
    unfold tysC at h
    rw [Bool.and_eq_true] at h
    obtain ⟨ns, h1, h2, h3⟩ := tysC_ok ok h.2
    have h0 := h.1
    unfold tyC at h0
    split at h0
    · split at h0
      · rename_i x p _ n hn
        have b := bltC_ok ok h0
        refine ⟨n :: ns, .cons b.gl b.mg (by rw [b.eq]; exact bootTy hn) b.nn b.nd h1, ?_, by rw [List.length_cons, List.length_cons, h3]⟩
        rw [List.mapM_cons, hn, h2]
        rfl
      · cases h0
    · cases h0
  | [], _ :: _, h => by cases h
  | _ :: _, [], h => by cases h
/-- a target; cok: the cells that may be stored -/
def tg1C (k : Ck) (cok : Str → Bool) (i : Nat) (e : Expr) : Bool := match e with
  | .Name x _ => decide (k.N[i]? = some x) && (match k.sc.names.lookup x with
    | some .local => true
    | some .cell => cok x
    | _ => false)
  | _ => false
def tgsC (k : Ck) (cok : Str → Bool) : List Nat → List Expr → Bool
  | [], [] => true
  | i :: is, e :: es => tg1C k cok i e && tgsC k cok is es
  | _, _ => false
def tgC (k : Ck) (cok : Str → Bool) (t : Tg) (e : Expr) : Bool := match t with
  | .one i => tg1C k cok i e
  | .many is => match e with
    | .Tuple es _ _ => tgsC k cok is es
    | _ => false
theorem tg1C_ok {k : Ck} {X : Cx} {c : Cn} {R : Runs} (ok : CkOk k X c R) {cok : Str → Bool} (hc : ∀ x, cok x = true → X.fn x = true) {i : Nat} {e : Expr} (h : tg1C k cok i e = true) : ∃ x p, e = .Name x p ∧ PG X e (gName i) := by
  unfold tg1C at h
  split at h
  · rename_i x p
    rw [Bool.and_eq_true, decide_eq_true_eq] at h
    refine ⟨x, p, rfl, ?_⟩
    have hN : X.N.Nodup := by rw [ok.N]; exact ok.nd
    have hi : X.N[i]? = some x := by rw [ok.N]; exact h.1
    have h2 := h.2
    split at h2
    · rename_i hl
      rw [← ok.sc] at hl
      exact pg_name hN hi (.inl hl) (.inr hl)
    · rename_i hl
      rw [← ok.sc] at hl
      exact pg_name hN hi (.inr hl) (.inl (hc x h2))
    · cases h2
  · cases h
theorem tgsC_ok {k : Ck} {X : Cx} {c : Cn} {R : Runs} (ok : CkOk k X c R) {cok : Str → Bool} (hc : ∀ x, cok x = true → X.fn x = true) : ∀ {is : List Nat} {es : List Expr}, tgsC k cok is es = true → PGs X es (gNames is) ∧ (assignEach es X.env).length = is.length ∧ (assignEach es X.env).findIdx? (·.1) = none
  | [], [], _ => ⟨pgs_nil, rfl, rfl⟩
  | i :: is, e :: es, h => by
    unfold tgsC at h
    rw [Bool.and_eq_true] at h
    obtain ⟨x, p, rfl, h1⟩ := tg1C_ok ok hc h.1
    obtain ⟨h2, h3, h4⟩ := tgsC_ok ok hc h.2
    refine ⟨pgs_cons h1 h2 rfl, ?_, ?_⟩
    · show (assignEach es X.env).length + 1 = _
      rw [h3, List.length_cons]
    · show List.findIdx? _ ((false, _) :: assignEach es X.env) = none
      rw [List.findIdx?_cons, h4]
      rfl
  | [], _ :: _, h => by cases h
  | _ :: _, [], h => by cases h
theorem tgC_ok {k : Ck} {X : Cx} {c : Cn} {R : Runs} (ok : CkOk k X c R) {cok : Str → Bool} (hc : ∀ x, cok x = true → X.fn x = true) {t : Tg} {e : Expr} (h : tgC k cok t e = true) : PG X e (gT X.K t) := by
  cases t with
  | one i =>
    obtain ⟨x, p, rfl, h1⟩ := tg1C_ok ok hc h
    exact h1
  | many is =>
    unfold tgC at h
    dsimp only at h
    split at h
    · obtain ⟨h1, h2, h3⟩ := tgsC_ok ok hc h
      exact pg_tup (n := is.length) ok.calm h1 h2 h3
    · cases h

theorem pt_ifE {X : Cx} {z a b : Expr} {tc ta tb : TT} {pos : Pos} (hc : PT X z tc) (ha : PT X a ta) (hb : PT X b tb) : PT X (.IfExp z a b pos) (fun σ H Q => tc σ H fun k H1 => if k = true then ta σ H1 Q else tb σ H1 Q) := by
  refine ⟨fun pins s σ H Q I h => ?_⟩
  refine isTrue_IfExp (thn (hc.run pins s σ H _ I h) fun d s1 ⟨H1, I1, q1⟩ => ?_)
  cases d with
  | true => exact ha.run pins s1 σ H1 Q I1 q1
  | false => exact hb.run pins s1 σ H1 Q I1 q1
theorem tT_end {c : Cn} {W : WX} {fa : OI.Env → Store → Res (M × Pl)} {σ : L2.St} {S : Wd} {e : OI.Env} {s : Store} {Q : Bool → Hp → Prop} (Rr : Rl c S e s σ) (p : PostG c W σ S s ((outM (valM fa e s)).bind fun x e1 s1 => getB x.1 e1 s1) rB Q) : tT c W fa σ S.H Q := by
  refine ⟨S, e, s, rfl, Rr, ?_⟩
  unfold testB
  unfold outM valM at p
  cases h : fa e s with
  | ok x e1 s1 =>
    rw [h] at p
    obtain ⟨m, pl⟩ := x
    cases m with
    | val d => exact p
    | ol xs => cases pl <;> exact p.elim
    | od t kvs => cases pl <;> exact p.elim
  | err k e1 s1 => rw [h] at p; exact p
  | bad => rw [h] at p; exact p
theorem t_ife {X : Cx} {c : Cn} {W : WX} {R : Runs} {z a b : Expr} {iz ia ib : IE} {pos : Pos} (hc : PT X z (tT c W (ev R iz))) (ha : PT X a (tT c W (ev R ia))) (hb : PT X b (tT c W (ev R ib))) : PT X (.IfExp z a b pos) (tT c W (ev R (.ife iz ia ib))) :=
  (pt_ifE hc ha hb).weak fun σ H Q q => by
    obtain ⟨S, e, s, rfl, Rr, p⟩ := q
    have p : PostG c W σ S s (((testB (ev R iz) e s).bind fun k => ifeK k (valM (ev R ia)) (valM (ev R ib))).bind fun x e1 s1 => getB x.1 e1 s1) rB Q := p
    rw [Res.bind_bind] at p
    refine ⟨S, e, s, rfl, Rr, PostG.bind Rr.toRlS p fun k e1 s1 S1 k' q1 R1 st1 rp1 p1 => ?_⟩
    cases rp1
    unfold ifeK at p1
    cases k with
    | true => exact tT_end R1 p1
    | false => exact tT_end R1 p1

def bi1B : List String := ["len", "sum", "max", "min", "sorted"]
def bi1T : List String := ["list", "tuple", "dict", "int", "str"]
mutual
def chkE (k : Ck) : IE → Expr → Bool
  | .var i, e => match e with
    | .Name x _ => decide (k.N[i]? = some x) && visC k.sc x && plainName x
    | _ => false
  | .cst d, e => match e with
    | .Constant (.int j) _ _ => decide (d = .int j)
    | .Constant (.bool j) _ _ => decide (d = .bl j)
    | .Constant (.str j) _ _ => decide (d = .str j)
    | .Constant .none _ _ => decide (d = .non)
    | _ => false
  | .bin op a b, e => match e with
    | .BinOp x o y _ => binC op o && chkE k a x && chkE k b y
    | _ => false
  | .neg a, e => match e with
    | .UnaryOp .USub x _ => chkE k a x
    | _ => false
  | .cmp op a b, e => match e with
    | .Compare x [o] [y] _ => cmpC op o && plainE y && chkE k a x && chkE k b y
    | _ => false
  | .isN n a, e => match e with
    | .Compare x [.Is] [.Constant .none _ _] _ => !n && chkE k a x
    | .Compare x [.IsNot] [.Constant .none _ _] _ => n && chkE k a x
    | _ => false
  | .isB n a b, e => match e with
    | .Compare x [.Is] [.Constant (.bool v) _ _] _ => !n && decide (b = v) && chkE k a x
    | .Compare x [.IsNot] [.Constant (.bool v) _ _] _ => n && decide (b = v) && chkE k a x
    | _ => false
  | .both a b, e => match e with
    | .BoolOp .And [x, y] _ => chkE k a x && chkE k b y
    | .BoolOp .And (x :: y :: z :: r) p => chkE k a x && chkE k b (.BoolOp .And (y :: z :: r) p)
    | _ => false
  | .either a b, e => match e with
    | .BoolOp .Or [x, y] _ => chkE k a x && chkE k b y
    | .BoolOp .Or (x :: y :: z :: r) p => chkE k a x && chkE k b (.BoolOp .Or (y :: z :: r) p)
    | _ => false
  | .nott a, e => match e with
    | .UnaryOp .Not x _ => chkE k a x
    | _ => false
  | .ife c a b, e => match e with
    | .IfExp z x y _ => chkE k c z && chkE k a x && chkE k b y
    | _ => false
  | .tup es, e => match e with
    | .Tuple as _ _ => decide (es.len ≤ 1000) && chkEs k es as
    | _ => false
  | .lst es, e => match e with
    | .List as _ => decide (es.len ≤ 1000) && chkEs k es as
    | _ => false
  | .idx a b, e => match e with
    | .Subscript x y _ => plainE y && chkE k a x && chkE k b y
    | _ => false
  | .slc a lo hi, e => match e with
    | .Subscript x (.Slice l h none _) _ => chkE k a x && chkO k lo l && chkO k hi h
    | _ => false
  | .call f es, e => match e with
    | .Call (.Name x _) (a :: as) [] _ => decide (x = Str.ofString f) && k.fns.contains (f, es.len) && glC k.sc x && plainName x && (a :: as).all plainE && chkEs k es (a :: as)
    | _ => false
  | .bi1 f a, e => match e with
    | .Call (.Name x _) [y] [] _ => bltC k f x && (bi1B.contains f || bi1T.contains f) && plainE y && chkE k a y
    | _ => false
  | .bi2 f a b, e => match e with
    | .Call (.Name x _) [y, z] [] _ => bltC k f x && (f == "max" || f == "min") && plainE y && plainE z && chkE k a y && chkE k b z
    | _ => false
  | .bi3 f a b d, e => match e with
    | .Call (.Name x _) [y, z, w] [] _ => bltC k f x && (f == "max") && plainE y && plainE z && plainE w && chkE k a y && chkE k b z && chkE k d w
    | _ => false
  | .isi a one ts, e => match e with
    | .Call (.Name x _) [y, .Tuple as _ _] [] _ => bltC k "isinstance" x && plainE y && !one && decide (ts ≠ []) && decide (ts.length ≤ 1000) && tysC k ts as && chkE k a y
    | .Call (.Name x _) [y, .Name n p] [] _ => bltC k "isinstance" x && plainE y && one && tysC k ts [.Name n p] && chkE k a y
    | _ => false
  | .lc elt t it co own, e => match e with
    | .ListComp x [⟨tg, iter, ifs, 0⟩] scope _ => (t.slots.all fun i => own.contains i) && plainE iter && blkC k.N k.sc scope (own.map fun i => (k.N.getD i ⟨#[]⟩, i)) && chkI k it tg iter
      && tgC { k with sc := relS scope k.sc } (fun x => scope.names.lookup x == some .cell) t tg && chkE { k with sc := relS scope k.sc } elt x && chkC { k with sc := relS scope k.sc } co ifs
    | _ => false
  | .share a, e => plainT e && chkE k a e
  | _, _ => false
def chkEs (k : Ck) : IEs → List Expr → Bool
  | .nil, es => es.isEmpty
  | .cons a r, es => match es with
    | x :: xs => plainE x && chkE k a x && chkEs k r xs
    | [] => false
def chkO (k : Ck) : IO → Option Expr → Bool
  | .no, o => o.isNone
  | .yes a, o => match o with
    | some x => chkE k a x
    | none => false
def chkC (k : Ck) : IO → List Expr → Bool
  | .no, o => o.isEmpty
  | .yes a, o => match o with
    | [x] => chkE k a x
    | _ => false
def chkI (k : Ck) : OI.It → Expr → Expr → Bool
  | .of a, _, e => chkE k a e
  | .rng1 a, _, e => match e with
    | .Call (.Name x _) [y] [] _ => bltC k "range" x && plainE y && chkE k a y
    | _ => false
  | .rng2 a b, _, e => match e with
    | .Call (.Name x _) [y, z] [] _ => bltC k "range" x && plainE y && plainE z && chkE k a y && chkE k b z
    | _ => false
  | _, _, _ => false
end

/-! ### it is so -/
theorem CkOk.blk {k : Ck} {X : Cx} {c : Cn} {R : Runs} (ok : CkOk k X c R) {s : Shared} {H : Hp} {scope : Scope} {cl : List (Str × Addr)} {C : Addr} {fp : List Addr} : CkOk { k with sc := relS scope k.sc } (X.blk s H scope (compEnvC scope cl C X.env) fp) c R where
  N := ok.N
  nd := ok.nd
  sc := by
    show PySem.relabel scope X.env = relS scope k.sc
    rw [← ok.sc]
    rfl
  K := ok.K
  calm := ok.calm
  un := ok.un
  fn := fun f np h => by
    obtain ⟨j, ⟨hF⟩, hr⟩ := ok.fn f np h
    exact ⟨j, ⟨hF⟩, hr⟩
  blt := ok.blt
theorem es_len {k : Ck} : ∀ {es : IEs} {as : List Expr}, chkEs k es as = true → as.all plainE = true
  | .nil, as, h => by
    unfold chkEs at h
    rw [List.isEmpty_iff] at h
    rw [h]
    rfl
  | .cons a r, as, h => by
    unfold chkEs at h
    split at h
    · rw [Bool.and_eq_true, Bool.and_eq_true] at h
      rw [List.all_cons, h.1.1, es_len h.2]
      rfl
    · cases h
section
variable {c : Cn} {R : Runs}
theorem bi1_ok {k : Ck} {X : Cx} {W : WX} (ok : CkOk k X c R) {f : String} {x : Str} {p pos : Pos} {y : Expr} {ia : IE} (hb : bltC k f x = true) (hf : (bi1B.contains f || bi1T.contains f) = true) (hp : plainE y = true) (ha : PE X y (tE c W (ev R ia))) : PE X (.Call (.Name x p) [y] [] pos) (tE c W (ev R (.bi1 f ia))) := by
  have b := bltC_ok ok hb
  have h : f ∈ bi1B ∨ f ∈ bi1T := by
    rw [Bool.or_eq_true] at hf
    exact hf.imp (fun h => by simpa using h) (fun h => by simpa using h)
  have B : ∀ (g : String), f = g → CallR X (.builtin g) (R1c c (bi1 g)) → bootBuiltins (Str.ofString g) = some (.builtin g) → PE X (.Call (.Name x p) [y] [] pos) (tE c W (ev R (.bi1 f ia))) := fun g e hc hv => by
    subst e
    exact s_bi1B b.gl b.mg b.nn b.nd hc (by rw [b.eq]; exact hv) hp ha
  have T : ∀ (g : String), f = g → CallR X (.type g) (R1c c (bi1 g)) → bootBuiltins (Str.ofString g) = some (.type g) → PE X (.Call (.Name x p) [y] [] pos) (tE c W (ev R (.bi1 f ia))) := fun g e hc hv => by
    subst e
    exact s_bi1T b.gl b.mg b.nn b.nd hc (by rw [b.eq]; exact hv) hp ha
  rcases h with h | h
  · unfold bi1B at h
    simp only [List.mem_cons, List.not_mem_nil, or_false] at h
    rcases h with h | h | h | h | h
    · exact B _ h (b_len ok.K) (by decide +kernel)
    · exact B _ h (b_sum ok.K ok.calm) (by decide +kernel)
    · exact B _ h (b_max1 ok.K ok.calm) (by decide +kernel)
    · exact B _ h (b_min1 ok.K ok.calm) (by decide +kernel)
    · exact B _ h (b_sorted ok.K) (by decide +kernel)
  · unfold bi1T at h
    simp only [List.mem_cons, List.not_mem_nil, or_false] at h
    rcases h with h | h | h | h | h
    · exact T _ h (b_list ok.K) (by decide +kernel)
    · exact T _ h (b_tuple ok.K) (by decide +kernel)
    · exact T _ h b_dict (by decide +kernel)
    · exact T _ h b_int (by decide +kernel)
    · exact T _ h b_str (by decide +kernel)
mutual
theorem ck_e : ∀ (i : IE) {k : Ck} {X : Cx} {W : WX} {e : Expr}, CkOk k X c R → Takes X W → chkE k i e = true → SE X c W e (ev R i)
  | .var i, k, X, W, e, ok, tk, h => by
    unfold chkE at h
    split at h
    · simp only [Bool.and_eq_true, decide_eq_true_eq] at h
      obtain ⟨⟨h1, h2⟩, h3⟩ := h
      have hp := plainName_ok h3
      exact se_of rfl (s_var (by rw [ok.N]; exact h1) (by rw [ok.sc]; exact visC_ok h2) hp.1 hp.2.1)
    · cases h
  | .cst d, k, X, W, e, ok, tk, h => by
    unfold chkE at h
    split at h
    · rw [decide_eq_true_eq] at h
      subst h
      exact se_of rfl s_cst_int
    · rw [decide_eq_true_eq] at h
      subst h
      exact se_of rfl s_cst_bl
    · rw [decide_eq_true_eq] at h
      subst h
      exact se_of rfl s_cst_str
    · rw [decide_eq_true_eq] at h
      subst h
      exact se_of rfl s_cst_non
    · cases h
  | .bin op a b, k, X, W, e, ok, tk, h => by
    unfold chkE at h
    split at h
    · simp only [Bool.and_eq_true] at h
      exact se_of rfl (s_bin (binC_ok ok.K h.1.1) (ck_e a ok tk h.1.2).pe (ck_e b ok tk h.2).pe)
    · cases h
  | .neg a, k, X, W, e, ok, tk, h => by
    unfold chkE at h
    split at h
    · exact se_of rfl (s_neg (ck_e a ok tk h).pe)
    · cases h
  | .cmp op a b, k, X, W, e, ok, tk, h => by
    unfold chkE at h
    split at h
    · simp only [Bool.and_eq_true] at h
      have ho := cmpC_ok (X := X) (c := c) ok.K ok.un h.1.1.1
      have ha := (ck_e a ok tk h.1.2).pe
      have hb := (ck_e b ok tk h.2).pe
      exact ⟨s_cmp ho h.1.1.2 ha hb, t_cmp ho h.1.1.2 ha hb, fun op vs p e => by cases e⟩
    · cases h
  | .isN n a, k, X, W, e, ok, tk, h => by
    unfold chkE at h
    split at h
    · simp only [Bool.and_eq_true, Bool.not_eq_true'] at h
      obtain ⟨rfl, h⟩ := h
      have ha := (ck_e a ok tk h).pe
      exact ⟨s_isN ha, t_isN ha, fun op vs p e => by cases e⟩
    · simp only [Bool.and_eq_true] at h
      obtain ⟨rfl, h⟩ := h
      have ha := (ck_e a ok tk h).pe
      exact ⟨s_notN ha, t_notN ha, fun op vs p e => by cases e⟩
    · cases h
  | .isB n a b, k, X, W, e, ok, tk, h => by
    unfold chkE at h
    split at h
    · simp only [Bool.and_eq_true, Bool.not_eq_true', decide_eq_true_eq] at h
      obtain ⟨⟨rfl, rfl⟩, h⟩ := h
      have ha := (ck_e a ok tk h).pe
      exact ⟨s_isB ha, t_isB ha, fun op vs p e => by cases e⟩
    · simp only [Bool.and_eq_true, decide_eq_true_eq] at h
      obtain ⟨⟨rfl, rfl⟩, h⟩ := h
      have ha := (ck_e a ok tk h).pe
      exact ⟨s_notB ha, t_notB ha, fun op vs p e => by cases e⟩
    · cases h
  | .both a b, k, X, W, e, ok, tk, h => by
    unfold chkE at h
    split at h
    · rw [Bool.and_eq_true] at h
      exact s_both (ck_e a ok tk h.1) (and_last (ck_e b ok tk h.2))
    · rw [Bool.and_eq_true] at h
      exact s_both (ck_e a ok tk h.1) (ck_e b ok tk h.2)
    · cases h
  | .either a b, k, X, W, e, ok, tk, h => by
    unfold chkE at h
    split at h
    · rw [Bool.and_eq_true] at h
      exact s_either (ck_e a ok tk h.1) (or_last (ck_e b ok tk h.2))
    · rw [Bool.and_eq_true] at h
      exact s_either (ck_e a ok tk h.1) (ck_e b ok tk h.2)
    · cases h
  | .nott a, k, X, W, e, ok, tk, h => by
    unfold chkE at h
    split at h
    · exact s_not (ck_e a ok tk h)
    · cases h
  | .ife z a b, k, X, W, e, ok, tk, h => by
    unfold chkE at h
    split at h
    · simp only [Bool.and_eq_true] at h
      exact ⟨s_ife (ck_e z ok tk h.1.1).pt (ck_e a ok tk h.1.2).pe (ck_e b ok tk h.2).pe, t_ife (ck_e z ok tk h.1.1).pt (ck_e a ok tk h.1.2).pt (ck_e b ok tk h.2).pt, fun op vs p e => by cases e⟩
    · cases h
  | .tup es, k, X, W, e, ok, tk, h => by
    unfold chkE at h
    split at h
    · simp only [Bool.and_eq_true, decide_eq_true_eq] at h
      exact se_of rfl (s_tup (by omega) (ck_es es ok tk h.2))
    · cases h
  | .lst es, k, X, W, e, ok, tk, h => by
    unfold chkE at h
    split at h
    · simp only [Bool.and_eq_true, decide_eq_true_eq] at h
      exact se_of rfl (s_lst (by omega) (ck_es es ok tk h.2))
    · cases h
  | .idx a b, k, X, W, e, ok, tk, h => by
    unfold chkE at h
    split at h
    · simp only [Bool.and_eq_true] at h
      exact se_of rfl (s_idx ok.K ok.un h.1.1 (ck_e a ok tk h.1.2).pe (ck_e b ok tk h.2).pe)
    · cases h
  | .slc a lo hi, k, X, W, e, ok, tk, h => by
    unfold chkE at h
    split at h
    · simp only [Bool.and_eq_true] at h
      exact se_of rfl (s_slc ok.K (ck_e a ok tk h.1.1).pe (ck_o lo ok tk h.1.2) (ck_o hi ok tk h.2))
    · cases h
  | .call f es, k, X, W, e, ok, tk, h => by
    unfold chkE at h
    split at h
    · simp only [Bool.and_eq_true, decide_eq_true_eq] at h
      obtain ⟨⟨⟨⟨⟨h1, h2⟩, h3⟩, h4⟩, h5⟩, h6⟩ := h
      obtain ⟨j, F, hr⟩ := ok.fn f es.len (by simpa using h2)
      have hp := plainName_ok h4
      have hg := glC_ok ok h3
      subst h1
      exact se_of rfl (s_call F hr hg tk rfl (ck_es es ok tk h6) hp.1 h5)
    · cases h
  | .bi1 f a, k, X, W, e, ok, tk, h => by
    unfold chkE at h
    split at h
    · simp only [Bool.and_eq_true] at h
      exact se_of rfl (bi1_ok ok h.1.1.1 h.1.1.2 h.1.2 (ck_e a ok tk h.2).pe)
    · cases h
  | .bi2 f a b, k, X, W, e, ok, tk, h => by
    unfold chkE at h
    split at h
    · simp only [Bool.and_eq_true, Bool.or_eq_true, beq_iff_eq] at h
      obtain ⟨⟨⟨⟨⟨h1, h2⟩, h3⟩, h4⟩, h5⟩, h6⟩ := h
      have b' := bltC_ok ok h1
      rcases h2 with h2 | h2
      · subst h2
        exact se_of rfl (s_bi2B b'.gl b'.mg b'.nn b'.nd (b_max2 ok.calm) (by rw [b'.eq]; decide +kernel) h3 (ck_e a ok tk h5).pe h4 (ck_e b ok tk h6).pe)
      · subst h2
        exact se_of rfl (s_bi2B b'.gl b'.mg b'.nn b'.nd (b_min2 ok.calm) (by rw [b'.eq]; decide +kernel) h3 (ck_e a ok tk h5).pe h4 (ck_e b ok tk h6).pe)
    · cases h
  | .bi3 f a b d, k, X, W, e, ok, tk, h => by
    unfold chkE at h
    split at h
    · simp only [Bool.and_eq_true, beq_iff_eq] at h
      obtain ⟨⟨⟨⟨⟨⟨⟨h1, h2⟩, h3⟩, h4⟩, h5⟩, h6⟩, h7⟩, h8⟩ := h
      have b' := bltC_ok ok h1
      subst h2
      exact se_of rfl (s_bi3B b'.gl b'.mg b'.nn b'.nd (b_max3 ok.calm) (by rw [b'.eq]; decide +kernel) h3 (ck_e a ok tk h6).pe h4 (ck_e b ok tk h7).pe h5 (ck_e d ok tk h8).pe)
    · cases h
  | .isi a one ts, k, X, W, e, ok, tk, h => by
    unfold chkE at h
    split at h
    · simp only [Bool.and_eq_true, decide_eq_true_eq, Bool.not_eq_true'] at h
      obtain ⟨⟨⟨⟨⟨⟨h1, h2⟩, h3⟩, h4⟩, h5⟩, h6⟩, h7⟩ := h
      have b' := bltC_ok ok h1
      obtain ⟨ns, t1, t2, t3⟩ := tysC_ok ok h6
      have he := b'.eq
      have hg := b'.gl
      have hm := b'.mg
      subst he h3
      exact se_of rfl (s_isiT ok.K hg hm t1 t2 (fun z => by subst z; exact h4 (List.length_eq_zero_iff.mp t3.symm)) (by omega) h2 (ck_e a ok tk h7).pe)
    · simp only [Bool.and_eq_true] at h
      obtain ⟨⟨⟨⟨h1, h2⟩, h3⟩, h4⟩, h7⟩ := h
      have b' := bltC_ok ok h1
      have he := b'.eq
      have hg := b'.gl
      have hm := b'.mg
      subst he h3
      cases ts with
      | nil => cases h4
      | cons t ts =>
        cases ts with
        | cons t2 ts => unfold tysC at h4; unfold tysC at h4; rw [Bool.and_false] at h4; cases h4
        | nil =>
          unfold tysC at h4
          unfold tysC at h4
          rw [Bool.and_true] at h4
          unfold tyC at h4
          dsimp only at h4
          split at h4
          · rename_i n hn
            have b2 := bltC_ok ok h4
            exact se_of rfl (s_isi1 ok.K hg hm b2.gl b2.mg (by rw [b2.eq]; exact bootTy hn) b2.nn b2.nd hn h2 (ck_e a ok tk h7).pe)
          · cases h4
    · cases h
  | .lc elt t it co own, k, X, W, e, ok, tk, h => by
    unfold chkE at h
    split at h
    · rename_i x tg iter ifs scope pos
      simp only [Bool.and_eq_true] at h
      obtain ⟨⟨⟨⟨⟨⟨h1, h2⟩, h3⟩, h4⟩, h5⟩, h6⟩, h7⟩ := h
      have ho : ∀ i ∈ t.slots, i ∈ own := fun i hi => by
        rw [List.all_eq_true] at h1
        simpa using h1 i hi
      have hown : (own.map fun i => (k.N.getD i ⟨#[]⟩, i)).map (·.2) = own := by
        rw [List.map_map]
        exact List.map_id' own
      have hb : BlkOk X.N X.env.scope scope (own.map fun i => (k.N.getD i ⟨#[]⟩, i)) := by
        rw [ok.N, ok.sc]
        exact blkOk_by h3
      have pe := pe_lc (X := X) (pos := pos) (g := gT X.K t) (wi := tI c W (evi R it)) (tt := tC c WN (evc R co)) (te := tE c WN (ev R elt)) ok.calm (by rw [ok.N]; exact ok.nd) (ck_i it ok tk h4 (W := W)) hb (fun s H C cl fp => tgC_ok ok.blk (fun y hy => hy) h5) (fun s H C cl fp => ck_c co ok.blk takes0 h7) (fun s H C cl fp => (ck_e elt ok.blk takes0 h6).pe) (fun v => plain_fold h2 X.env v)
      rw [hown] at pe
      exact se_of rfl (pe.weak fun σ H Q q => lc_weak ok.K ho q)
    · cases h
  | .share a, k, X, W, e, ok, tk, h => by
    unfold chkE at h
    rw [Bool.and_eq_true] at h
    exact se_of h.1 (s_share (ck_e a ok tk h.2).pe)
  | .glob _ _, k, X, W, e, ok, tk, h => by
    unfold chkE at h
    cases h
  | .chain _ _ _ _ _, k, X, W, e, ok, tk, h => by
    unfold chkE at h
    cases h
  | .dct _ _, k, X, W, e, ok, tk, h => by
    unfold chkE at h
    cases h
  | .attr _ _, k, X, W, e, ok, tk, h => by
    unfold chkE at h
    cases h
  | .new _ _, k, X, W, e, ok, tk, h => by
    unfold chkE at h
    cases h
  | .meth _ _ _ _, k, X, W, e, ok, tk, h => by
    unfold chkE at h
    cases h
  | .bm1 _ _ _, k, X, W, e, ok, tk, h => by
    unfold chkE at h
    cases h
  | .bm2 _ _ _ _, k, X, W, e, ok, tk, h => by
    unfold chkE at h
    cases h
  | .lrange _ _, k, X, W, e, ok, tk, h => by
    unfold chkE at h
    cases h
  | .lam _ _, k, X, W, e, ok, tk, h => by
    unfold chkE at h
    cases h
  | .app _, k, X, W, e, ok, tk, h => by
    unfold chkE at h
    cases h
  | .chain3 _ _ _ _ _ _ _, k, X, W, e, ok, tk, h => by
    unfold chkE at h
    cases h
theorem ck_es : ∀ (es : IEs) {k : Ck} {X : Cx} {W : WX} {as : List Expr}, CkOk k X c R → Takes X W → chkEs k es as = true → PA X as (tA c W (evs R es))
  | .nil, k, X, W, as, ok, tk, h => by
    unfold chkEs at h
    rw [List.isEmpty_iff] at h
    subst h
    exact s_nil
  | .cons a r, k, X, W, as, ok, tk, h => by
    unfold chkEs at h
    split at h
    · simp only [Bool.and_eq_true] at h
      exact s_cons h.1.1 (ck_e a ok tk h.1.2).pe (ck_es r ok tk h.2)
    · cases h
theorem ck_o : ∀ (o : IO) {k : Ck} {X : Cx} {W : WX} {a : Option Expr}, CkOk k X c R → Takes X W → chkO k o a = true → PO X a (tO c W (evo R o))
  | .no, k, X, W, a, ok, tk, h => by
    unfold chkO at h
    rw [Option.isNone_iff_eq_none] at h
    subst h
    exact s_no
  | .yes a, k, X, W, o, ok, tk, h => by
    unfold chkO at h
    split at h
    · exact s_yes (ck_e a ok tk h).pe
    · cases h
theorem ck_c : ∀ (o : IO) {k : Ck} {X : Cx} {a : List Expr}, CkOk k X c R → Takes X WN → chkC k o a = true → PTs X a (tC c WN (evc R o))
  | .no, k, X, a, ok, tk, h => by
    unfold chkC at h
    rw [List.isEmpty_iff] at h
    subst h
    exact s_ifs0
  | .yes a, k, X, o, ok, tk, h => by
    unfold chkC at h
    split at h
    · exact s_ifs1 (ck_e a ok tk h).pt
    · cases h
theorem ck_i : ∀ (i : OI.It) {k : Ck} {X : Cx} {W : WX} {tg a : Expr}, CkOk k X c R → Takes X W → chkI k i tg a = true → PI X tg a (tI c W (evi R i))
  | .of a, k, X, W, tg, e, ok, tk, h => by
    unfold chkI at h
    exact s_of ok.K (ck_e a ok tk h).pe
  | .rng1 a, k, X, W, tg, e, ok, tk, h => by
    unfold chkI at h
    split at h
    · simp only [Bool.and_eq_true] at h
      have b' := bltC_ok ok h.1.1
      have he := b'.eq
      have hg := b'.gl
      have hm := b'.mg
      subst he
      exact s_rng1 hg hm h.1.2 (ck_e a ok tk h.2).pe
    · cases h
  | .rng2 a b, k, X, W, tg, e, ok, tk, h => by
    unfold chkI at h
    split at h
    · simp only [Bool.and_eq_true] at h
      have b' := bltC_ok ok h.1.1.1.1
      have he := b'.eq
      have hg := b'.gl
      have hm := b'.mg
      subst he
      exact s_rng2 hg hm h.1.1.1.2 (ck_e a ok tk h.1.2).pe h.1.1.2 (ck_e b ok tk h.2).pe
    · cases h
  | .rng3 a b d, k, X, W, tg, e, ok, tk, h => by
    unfold chkI at h
    cases h
  | .zip a b, k, X, W, tg, e, ok, tk, h => by
    unfold chkI at h
    cases h
end
end
end OI

/-! OIw: whether a text of mine is the text of the row: statements. -/
namespace OI
open PySem PySem.Spec PyProof.Rows L2

/-- none of the comprehensions -/
def plainV : Expr → Bool
  | .ListComp _ _ _ _ => false
  | .SetComp _ _ _ _ => false
  | .DictComp _ _ _ _ _ => false
  | _ => true
theorem plainV_ok {a : Expr} (h : plainV a = true) (t : Option Expr) (l : Nat) (env : PySem.Env) : swapsWith a t l env = pure false := by
  cases a <;> first | rfl | cases h
def notTup : Expr → Bool
  | .Tuple _ _ _ => false
  | .List _ _ => false
  | _ => true
theorem notTup_ok {t a : Expr} (h : notTup t = true ∨ notTup a = true) (env : PySem.Env) : swappedStores [t] a env = pure none := by
  unfold swappedStores
  cases t <;> cases a <;> first | rfl | (rcases h with h | h <;> cases h)
/-- a comprehension that is stored at once -/
def swapB (sc : Scope) (value tg : Expr) : Bool := match value with
  | .ListComp _ _ s _ => match tg with
    | .Name t pos => sc.names.lookup t == some .local && pos.line == value.pos.line && !(s.names.any fun (n, k) => n == t && (k == .local || k == .cell))
    | _ => false
  | _ => false
theorem swapB_ok {value tg : Expr} {env : PySem.Env} {l : Nat} (hk : env.blockKind = .function) (h1 : ∀ a b c d, value ≠ .SetComp a b c d) (h2 : ∀ a b c d e, value ≠ .DictComp a b c d e) : swapsWith value (some tg) l env = pure (swapB env.scope value tg) := by
  cases value with
  | ListComp a b c d =>
    cases tg with
    | Name t pos =>
      show (do pure (env.blockKind == .function && env.kindOf t == some .local && pos.line == (Expr.ListComp a b c d).pos.line && !(c.names.any fun (n, k) => n == t && (k == .local || k == .cell))) : Sem Bool) = _
      rw [hk]
      rfl
    | _ => rfl
  | SetComp a b c d => exact absurd rfl (h1 a b c d)
  | DictComp a b c d e => exact absurd rfl (h2 a b c d e)
  | _ => rfl
def noSD : Expr → Bool
  | .SetComp _ _ _ _ => false
  | .DictComp _ _ _ _ _ => false
  | _ => true
theorem assign_sub {o i : Expr} {tpos : Pos} (h : plainE i = true) (env : PySem.Env) (v : Value) : assign (.Subscript o i tpos) env v = (do
      let ov ← holding [v] (eval o env)
      let iv ← holding [v, ov] (eval i env)
      standAt tpos
      holding [v, ov, iv] (PySem.setItem ov iv v)
      release [v, ov, iv] []) := by
  cases i <;> first | rfl | cases h
def fnT : Str → Bool := fun _ => true

mutual
def chkS (k : Ck) : IS → Stmt → Bool
  | .asg t e, st => match st with
    | .Assign [tg] v _ => tgC k fnT t tg && noSD v && (notTup tg || notTup v) && chkE k e v
    | _ => false
  | .setI o i a, st => match st with
    | .Assign [.Subscript x y _] v _ => plainV v && plainE y && chkE k o x && chkE k i y && chkE k a v
    | _ => false
  | .ret e, st => match st with
    | .Return (some v) _ => chkE k e v
    | _ => false
  | .ifs c a b, st => match st with
    | .If z x y _ => chkE k c z && chkSs k a x && chkSs k b y
    | _ => false
  | .expr e, st => match st with
    | .Expr v _ => plainV v && chkE k e v
    | _ => false
  | .mut0 f o, st => match st with
    | .Expr (.Call (.Attribute x fx ap) [] [] cp) _ => decide (fx = Str.ofString f) && (f == "clear" || f == "reverse") && plainE x && (ap.endLine == cp.line) && chkE k o x
    | _ => false
  | .mut1 f o a, st => match st with
    | .Expr (.Call (.Attribute x fx ap) [y] [] cp) _ => decide (fx = Str.ofString f) && (f == "append" || f == "extend") && plainE x && plainE y && (ap.endLine == cp.line) && chkE k o x && chkE k a y
    | _ => false
  | .fors t it b, st => match st with
    | .For tg iter body [] _ => plainE iter && tgC k fnT t tg && chkI k it tg iter && chkSs k b body
    | _ => false
  | .whil c b, st => match st with
    | .While z body [] _ => chkE k c z && chkSs k b body
    | _ => false
  | .pass, st => match st with
    | .Pass _ => true
    | _ => false
  | _, _ => false
def chkSs (k : Ck) : ISs → List Stmt → Bool
  | .nil, ss => ss.isEmpty
  | .cons a r, ss => match ss with
    | x :: xs => chkS k a x && chkSs k r xs
    | [] => false
end
structure StOk (k : Ck) (X : Cx) (c : Cn) (R : Runs) (W : WX) : Prop extends CkOk k X c R where
  own : PassesOwn (model X.prog X.w) X.A X.env X.xe
  fnT : ∀ x, X.fn x = true
  kind : X.env.blockKind = .function
  tk : Takes X W
section
variable {k : Ck} {X : Cx} {c : Cn} {R : Runs} {W : WX} {n : Nat}
theorem setLc (ok : StOk k X c R W) {t : Tg} {y : Str} {py pos lpos : Pos} {i : Nat} {x : Expr} {gens : List Comprehension} {scope : Scope} (hi : k.N[i]? = some y) (hl : X.env.scope.names.lookup y = some .local) (hsw : swapsWith (.ListComp x gens scope lpos) (some (.Name y py)) pos.line X.env = pure true) :
    ∀ e : IE, chkE k e (.ListComp x gens scope lpos) = true → PS X (.Assign [.Name y py] (.ListComp x gens scope lpos) pos) (tAsg (tE c W (ev R e)) (gName i))
  | .lc elt t it co own, h4 => by
    unfold chkE at h4
    split at h4
    · rename_i x tg iter ifs scope pos' heq
      cases heq
      simp only [Bool.and_eq_true] at h4
      obtain ⟨⟨⟨⟨⟨⟨g1, g2⟩, g3⟩, g4⟩, g5⟩, g6⟩, g7⟩ := h4
      have ho : ∀ i ∈ t.slots, i ∈ own := fun i hi => by
        rw [List.all_eq_true] at g1
        simpa using g1 i hi
      have hown : (own.map fun i => (k.N.getD i ⟨#[]⟩, i)).map (·.2) = own := by
        rw [List.map_map]
        exact List.map_id' own
      have hbk : BlkOk X.N X.env.scope scope (own.map fun i => (k.N.getD i ⟨#[]⟩, i)) := by
        rw [ok.N, ok.sc]
        exact blkOk_by g3
      have ps := ps_setLc (X := X) (pos := lpos) (spos := pos) (py := py) (i := i) (y := y) (g := gT X.K t) (wi := tI c W (evi R it)) (tt := tC c WN (evc R co)) (te := tE c WN (ev R elt)) ok.calm (by rw [ok.N]; exact ok.nd) (by rw [ok.N]; exact hi) hl hsw
        (ck_i it ok.toCkOk ok.tk g4 (W := W)) hbk (fun s H C cl fp => tgC_ok ok.blk (fun y hy => hy) g5) (fun s H C cl fp => ck_c co ok.blk takes0 g7) (fun s H C cl fp => (ck_e elt ok.blk takes0 g6).pe) (fun v => plain_fold g2 X.env v)
      rw [hown] at ps
      exact ps.weak fun D σ H q => lc_weak ok.K ho q
    · cases h4
  | .share a, h4 => by
    unfold chkE at h4
    rw [Bool.and_eq_true] at h4
    exact (setLc ok hi hl hsw (t := t) a h4.2).weak fun D σ H q => share_weak q
  | .var _, h => by
    unfold chkE at h
    cases h
  | .cst _, h => by
    unfold chkE at h
    cases h
  | .glob _ _, h => by
    unfold chkE at h
    cases h
  | .bin _ _ _, h => by
    unfold chkE at h
    cases h
  | .neg _, h => by
    unfold chkE at h
    cases h
  | .cmp _ _ _, h => by
    unfold chkE at h
    cases h
  | .chain _ _ _ _ _, h => by
    unfold chkE at h
    cases h
  | .isN _ _, h => by
    unfold chkE at h
    cases h
  | .isB _ _ _, h => by
    unfold chkE at h
    cases h
  | .both _ _, h => by
    unfold chkE at h
    cases h
  | .either _ _, h => by
    unfold chkE at h
    cases h
  | .nott _, h => by
    unfold chkE at h
    cases h
  | .ife _ _ _, h => by
    unfold chkE at h
    cases h
  | .tup _, h => by
    unfold chkE at h
    cases h
  | .lst _, h => by
    unfold chkE at h
    cases h
  | .dct _ _, h => by
    unfold chkE at h
    cases h
  | .idx _ _, h => by
    unfold chkE at h
    cases h
  | .slc _ _ _, h => by
    unfold chkE at h
    cases h
  | .attr _ _, h => by
    unfold chkE at h
    cases h
  | .call _ _, h => by
    unfold chkE at h
    cases h
  | .new _ _, h => by
    unfold chkE at h
    cases h
  | .meth _ _ _ _, h => by
    unfold chkE at h
    cases h
  | .bi1 _ _, h => by
    unfold chkE at h
    cases h
  | .bi2 _ _ _, h => by
    unfold chkE at h
    cases h
  | .bi3 _ _ _ _, h => by
    unfold chkE at h
    cases h
  | .bm1 _ _ _, h => by
    unfold chkE at h
    cases h
  | .bm2 _ _ _ _, h => by
    unfold chkE at h
    cases h
  | .isi _ _ _, h => by
    unfold chkE at h
    cases h
  | .lrange _ _, h => by
    unfold chkE at h
    cases h
  | .lam _ _, h => by
    unfold chkE at h
    cases h
  | .app _, h => by
    unfold chkE at h
    cases h
  | .chain3 _ _ _ _ _ _ _, h => by
    unfold chkE at h
    cases h
theorem asg_ok (ok : StOk k X c R W) {t : Tg} {e : IE} {tg v : Expr} {pos : Pos} (h1 : tgC k fnT t tg = true) (h2 : noSD v = true) (h3 : (notTup tg || notTup v) = true) (h4 : chkE k e v = true) :
    PS X (.Assign [tg] v pos) (tAsg (tE c W (ev R e)) (gT X.K t)) := by
  have hg := tgC_ok ok.toCkOk (fun x _ => ok.fnT x) h1
  have he := (ck_e e ok.toCkOk ok.tk h4).pe
  have hsw : swapsWith v (some tg) pos.line X.env = pure (swapB k.sc v tg) := by
    rw [← ok.sc]
    exact swapB_ok ok.kind (fun a b c d e => by subst e; cases h2) (fun a b c d e z => by subst z; cases h2)
  have ht : swappedStores [tg] v X.env = pure none := notTup_ok (by rw [Bool.or_eq_true] at h3; exact h3) X.env
  have hlen : (assignEach [tg] X.env).map (·.2) = [assign tg X.env] := by
    cases tg <;> first | rfl | (cases t <;> cases h1)
  cases hb : swapB k.sc v tg with
  | false =>
    rw [hb] at hsw
    exact ps_asg he hg hsw ht hlen
  | true =>
    rw [hb] at hsw
    unfold swapB at hb
    split at hb
    · split at hb
      · rename_i y py
        cases t with
        | many is => cases h1
        | one i =>
          simp only [Bool.and_eq_true, beq_iff_eq] at hb
          have hl := hb.1.1
          rw [← ok.sc] at hl
          have h1 : tg1C k fnT i (.Name y py) = true := h1
          unfold tg1C at h1
          dsimp only at h1
          rw [Bool.and_eq_true, decide_eq_true_eq] at h1
          exact setLc ok (t := .one i) h1.1 hl hsw e h4
      · cases hb
    · cases hb
mutual
theorem ck_s (ok : StOk k X c R W) : ∀ (i : IS) {ws : List Nat} {st : Stmt}, (∀ j ∈ wr i, j ∈ ws) → chkS k i st = true → PS X st (tS c W ws (exec R n i))
  | .asg t e, ws, st, hw, h => by
    unfold chkS at h
    split at h
    · simp only [Bool.and_eq_true] at h
      obtain ⟨⟨⟨h1, h2⟩, h3⟩, h4⟩ := h
      exact s_asg ok.K hw (asg_ok ok h1 h2 h3 h4)
    · cases h
  | .setI o i a, ws, st, hw, h => by
    unfold chkS at h
    split at h
    · simp only [Bool.and_eq_true] at h
      obtain ⟨⟨⟨⟨h1, h2⟩, h3⟩, h4⟩, h5⟩ := h
      exact s_setI (by have := ok.un; omega) hw (fun l => by unfold swapsWithSole; exact plainV_ok h1 _ l X.env) (notTup_ok (.inl rfl) X.env) (ck_e a ok.toCkOk ok.tk h5).pe (ck_e o ok.toCkOk ok.tk h3).pe (ck_e i ok.toCkOk ok.tk h4).pe fun v => assign_sub h2 X.env v
    · cases h
  | .ret e, ws, st, hw, h => by
    unfold chkS at h
    split at h
    · exact s_ret (ck_e e ok.toCkOk ok.tk h).pe
    · cases h
  | .ifs z a b, ws, st, hw, h => by
    unfold chkS at h
    split at h
    · simp only [Bool.and_eq_true] at h
      exact s_ifs (ck_e z ok.toCkOk ok.tk h.1.1).pt (ck_ss ok a (fun j hj => hw j (List.mem_append_left _ hj)) h.1.2) (ck_ss ok b (fun j hj => hw j (List.mem_append_right _ hj)) h.2)
    · cases h
  | .expr e, ws, st, hw, h => by
    unfold chkS at h
    split at h
    · simp only [Bool.and_eq_true] at h
      exact s_expr (fun l => plainV_ok h.1 _ l X.env) (ck_e e ok.toCkOk ok.tk h.2).pe
    · cases h
  | .mut0 f o, ws, st, hw, h => by
    unfold chkS at h
    split at h
    · simp only [Bool.and_eq_true, decide_eq_true_eq, Bool.or_eq_true, beq_iff_eq] at h
      obtain ⟨⟨⟨⟨h1, h2⟩, h3⟩, h4⟩, h5⟩ := h
      have ho := (ck_e o ok.toCkOk ok.tk h5).pe
      subst h1
      rcases h2 with rfl | rfl
      · exact s_app0 ok.K PySem.F.slot_list_clear PySem.F.type_list_clear mt_clear hw r_clear ho h3 (by simpa using h4)
      · exact s_app0 ok.K PySem.F.slot_list_reverse PySem.F.type_list_reverse mt_reverse hw r_reverse ho h3 (by simpa using h4)
    · cases h
  | .mut1 f o a, ws, st, hw, h => by
    unfold chkS at h
    split at h
    · simp only [Bool.and_eq_true, decide_eq_true_eq, Bool.or_eq_true, beq_iff_eq] at h
      obtain ⟨⟨⟨⟨⟨⟨h1, h2⟩, h3⟩, h4⟩, h5⟩, h6⟩, h7⟩ := h
      have ho := (ck_e o ok.toCkOk ok.tk h6).pe
      have ha := (ck_e a ok.toCkOk ok.tk h7).pe
      subst h1
      rcases h2 with rfl | rfl
      · exact s_app ok.K PySem.F.slot_list_append PySem.F.type_list_append mt_append (by decide) hw r_append ho ha h3 h4 (by simpa using h5)
      · exact s_app ok.K PySem.F.slot_list_extend PySem.F.type_list_extend mt_extend (by decide) hw r_extend ho ha h3 h4 (by simpa using h5)
    · cases h
  | .fors t it b, ws, st, hw, h => by
    unfold chkS at h
    split at h
    · simp only [Bool.and_eq_true] at h
      obtain ⟨⟨⟨h1, h2⟩, h3⟩, h4⟩ := h
      exact s_for ok.K ok.own ok.calm (ck_i it ok.toCkOk ok.tk h3) (tgC_ok ok.toCkOk (fun x _ => ok.fnT x) h2) hw (ck_ss ok b (fun j hj => List.mem_append_right _ hj) h4) (fun v => plain_fold h1 X.env v)
    · cases h
  | .whil z b, ws, st, hw, h => by
    unfold chkS at h
    split at h
    · simp only [Bool.and_eq_true] at h
      exact s_while ok.own (ck_e z ok.toCkOk ok.tk h.1).pt (ck_ss ok b hw h.2)
    · cases h
  | .pass, ws, st, hw, h => by
    unfold chkS at h
    split at h
    · exact s_pass
    · cases h
  | .pop _ _, ws, st, hw, h => by
    unfold chkS at h
    cases h
  | .setA _ _ _, ws, st, hw, h => by
    unfold chkS at h
    cases h
  | .rais _, ws, st, hw, h => by
    unfold chkS at h
    cases h
  | .tryA _ _ _ _, ws, st, hw, h => by
    unfold chkS at h
    cases h
  | .tryM _ _, ws, st, hw, h => by
    unfold chkS at h
    cases h
theorem ck_ss (ok : StOk k X c R W) : ∀ (i : ISs) {ws : List Nat} {st : List Stmt}, (∀ j ∈ wrs i, j ∈ ws) → chkSs k i st = true → PSs X st (tS c W ws (execs R n i))
  | .nil, ws, st, hw, h => by
    unfold chkSs at h
    rw [List.isEmpty_iff] at h
    subst h
    exact s_snil
  | .cons a r, ws, st, hw, h => by
    unfold chkSs at h
    split at h
    · rw [Bool.and_eq_true] at h
      exact s_scons (ck_s ok a (fun j hj => hw j (List.mem_append_left _ hj)) h.1) (ck_ss ok r (fun j hj => hw j (List.mem_append_right _ hj)) h.2)
    · cases h
end
end
end OI

/-! OIx: all defs of a text; the law. -/
namespace OI
open PySem PySem.Spec PyProof.Rows L2

structure Entry where
  name : String
  qual : Str
  ps : List Str
  N : List Str
  st : Stmt
  fa : Addr
  fd : FuncData
  fn : Fn
structure EntOk (K : PySem.W.Frag) (mg : Str → Option Value) (Pg : Prog) (fns : List (String × Nat)) (blts : List String) (e : Entry) : Prop where
  F : L2.Fun K (Str.ofString e.name) e.qual e.st e.fa e.fd
  S : FnScope e.N e.ps (defScope e.st)
  B : Binds K e.fd e.ps []
  mg : mg (Str.ofString e.name) = some (.ref e.fa)
  np : e.ps.length = e.fn.np
  ns : e.fn.ns = e.N.length
  lk : look Pg e.name = some e.fn
  ck : chkSs ⟨e.N, defScope e.st, fns, blts⟩ e.fn.body (defBody e.st) = true
theorem all_ok {P : Program} {w : World} {K : PySem.W.Frag} {mg : Str → Option Value} {base : Heap} {c : Cn} (hK : K = c.K) {T : List Entry} {Pg : Prog} {blts : List String} {m : Nat} (hb : ∀ x ∈ blts, mg (Str.ofString x) = none)
    (hT : ∀ e ∈ T, EntOk K mg Pg (T.map fun e => (e.name, e.fn.np)) blts e) : ∀ n, ∀ e ∈ T, FnOk P w K mg base (L2.CX P w) n e.fa e.fd e.ps (spF c (run Pg m n) e.name e.fn.np)
  | 0, e, _ => ⟨fun vs H Q E ⟨_, _, _, _, _, _, _, _, p⟩ => p.elim, fun A outer s H args us vs Q E _ _ _ _ ⟨_, _, _, _, _, _, _, _, p⟩ => p.elim⟩
  | n + 1, e, he => by
    have ih := all_ok (P := P) (w := w) (base := base) hK hb hT n (m := m)
    have o := hT e he
    refine def_ok (ws := wrs e.fn.body) o.F o.S o.lk o.np o.ns fun cdv A outer s H E hr => ?_
    refine ck_ss ⟨⟨rfl, o.S.nd, rfl, hK, rfl, ?_, fun f np hf => ?_, hb⟩, passes_of rfl, fun _ => rfl, ?_, takes_of rfl rfl rfl rfl⟩ e.fn.body (fun j hj => hj) o.ck
    · have := hr.un
      show (A.deeper _).units + 65 < cLine
      omega
    · obtain ⟨e2, h2, h3⟩ := List.mem_map.mp hf
      cases h3
      have o2 := hT e2 h2
      exact ⟨n, ⟨⟨e2.fa, e2.fd, e2.ps, o2.mg, o2.F.kp, o2.B, o2.np, ih e2 h2⟩⟩, hr⟩
    · show (if (defScope e.st).kind.isAnnotationScope then ScopeKind.function else (defScope e.st).kind) = .function
      rw [o.S.kind]
      rfl
/-- the law's promise from the plain run -/
theorem law_sp {K : PySem.W.Frag} {c : Cn} (hK : K = c.K) {Pg : Prog} {m n N : Nat} (pure : ∀ ns : List Int, ns.length ≤ N → (∀ z ∈ ns, Builtin.Int.intBits z ≤ 1048576) → ∃ s, run Pg m n "law" [.scr ns] [] = .ok (.val (.bl true)) s)
    (H : Hp) (a : Addr) (ns : List Int) (h1 : ns.length ≤ N) (h2 : ∀ z ∈ ns, Builtin.Int.intBits z ≤ 1048576) (h3 : Only H) (h4 : SqL K H a (ns.map V.int)) : spF c (run Pg m n) "law" 1 [.ref a] H (fun v _ => v = .bl true) fun _ _ _ => False := by
  obtain ⟨s, hs⟩ := pure ns h1 h2
  refine ⟨⟨[], fun _ => none, H⟩, [], [.scr ns], rfl, ⟨rfl, fun n e h => by simp at h, fun a h => absurd rfl h, fun a q n h => (by cases h), fun b => ?_⟩, fun a i h => (by cases h), ⟨_, [], rfl, ⟨a, rfl, ?_⟩, rfl⟩, rfl, ?_⟩
  · rcases h3 b with e | ⟨o, xs, e⟩
    · show (∀ xs, H b = _ → _) ∧ (∀ xs, H b = _ → _) ∧ (∀ xs, H b = _ → _)
      rw [e]
      exact ⟨fun _ z => (by cases z), fun _ z => (by cases z), fun _ z => (by cases z)⟩
    · show (∀ xs, H b = _ → _) ∧ (∀ xs, H b = _ → _) ∧ (∀ xs, H b = _ → _)
      rw [e]
      exact ⟨fun _ z => (by cases z), fun _ z => (by cases z), fun _ z => (by cases z)⟩
  · rw [hK] at h4
    exact h4.elim (fun h => .inl ⟨h, rfl⟩) .inr
  · rw [hs]
    exact fun S' v _ _ _ r => r
end OI

/-! OIy: reckoning a run: rules for simp. -/
namespace OI
open PySem (Str)
section
variable {R : Runs} {e : Env} {s : Store}
@[simp] theorem bind_ok {α β : Type} (a : α) (e : Env) (s : Store) (f : α → Env → Store → Res β) : (Res.ok a e s).bind f = f a e s := Eq.trans rfl rfl
@[simp] theorem bind_err {α β : Type} (k : String) (e : Env) (s : Store) (f : α → Env → Store → Res β) : (Res.err k e s).bind f = .err k e s := Eq.trans rfl rfl
@[simp] theorem bind_bad {α β : Type} (f : α → Env → Store → Res β) : (Res.bad).bind f = .bad := Eq.trans rfl rfl
@[simp] theorem ev_var (i : Nat) : ev R (.var i) e s = varK e[i]? i e s := Eq.trans rfl rfl
@[simp] theorem ev_cst (d : D) : ev R (.cst d) e s = .ok (.val d, .tmp) e s := Eq.trans rfl rfl
@[simp] theorem ev_bin (op : BOp) (a b : IE) : ev R (.bin op a b) e s = two (ev R a) (ev R b) (fun x y => out (bin op x y)) e s := Eq.trans rfl rfl
@[simp] theorem ev_neg (a : IE) : ev R (.neg a) e s = one (ev R a) negK e s := Eq.trans rfl rfl
@[simp] theorem ev_cmp (op : COp) (a b : IE) : ev R (.cmp op a b) e s = two (ev R a) (ev R b) (fun x y => outB (cmp op x y)) e s := Eq.trans rfl rfl
@[simp] theorem ev_isN (n : Bool) (a : IE) : ev R (.isN n a) e s = one (ev R a) (isNK n) e s := Eq.trans rfl rfl
@[simp] theorem ev_isB (n : Bool) (a : IE) (b : Bool) : ev R (.isB n a b) e s = one (ev R a) (isBK n b) e s := Eq.trans rfl rfl
@[simp] theorem ev_both (a b : IE) : ev R (.both a b) e s = (testB (ev R a) e s).bind fun c => bothK c (ev R b) := Eq.trans rfl rfl
@[simp] theorem ev_either (a b : IE) : ev R (.either a b) e s = (testB (ev R a) e s).bind fun c => eitherK c (ev R b) := Eq.trans rfl rfl
@[simp] theorem ev_nott (a : IE) : ev R (.nott a) e s = (testB (ev R a) e s).bind fun c => okB (!c) := Eq.trans rfl rfl
@[simp] theorem ev_ife (c a b : IE) : ev R (.ife c a b) e s = (testB (ev R c) e s).bind fun k => ifeK k (valM (ev R a)) (valM (ev R b)) := Eq.trans rfl rfl
@[simp] theorem ev_tup (es : IEs) : ev R (.tup es) e s = (evs R es e s).bind fun ds => okV (.tup ds) := Eq.trans rfl rfl
@[simp] theorem ev_lst (es : IEs) : ev R (.lst es) e s = (evs R es e s).bind lstK := Eq.trans rfl rfl
@[simp] theorem ev_idx (a b : IE) : ev R (.idx a b) e s = two (ev R a) (ev R b) (fun x y => outD (index x y)) e s := Eq.trans rfl rfl
@[simp] theorem ev_slc (a : IE) (lo hi : IO) : ev R (.slc a lo hi) e s = (ev R a e s).bind fun x e1 s1 => (evo R lo e1 s1).bind fun l e2 s2 => (evo R hi e2 s2).bind (slcK x s1 l) := Eq.trans rfl rfl
@[simp] theorem ev_call (f : String) (es : IEs) : ev R (.call f es) e s = (evs R es e s).bind (callK R f) := Eq.trans rfl rfl
@[simp] theorem ev_bi1 (f : String) (a : IE) : ev R (.bi1 f a) e s = one (ev R a) (fun x => out (bi1 f x)) e s := Eq.trans rfl rfl
@[simp] theorem ev_bi2 (f : String) (a b : IE) : ev R (.bi2 f a b) e s = two (ev R a) (ev R b) (fun x y => out (bi2 f x y)) e s := Eq.trans rfl rfl
@[simp] theorem ev_isi (a : IE) (o : Bool) (ts : List Ty) : ev R (.isi a o ts) e s = (ev R a e s).bind (isiK ts) := Eq.trans rfl rfl
@[simp] theorem ev_lc (elt : IE) (tg : Tg) (it : It) (c : IO) (own : List Nat) : ev R (.lc elt tg it c own) e s = (evi R it e s).bind (lcK own tg (evc R c) (valD (ev R elt))) := Eq.trans rfl rfl
@[simp] theorem ev_share (a : IE) : ev R (.share a) e s = (ev R a e s).bind shareK := Eq.trans rfl rfl
@[simp] theorem evs_nil : evs R .nil e s = .ok [] e s := Eq.trans rfl rfl
@[simp] theorem evs_cons (a : IE) (r : IEs) : evs R (.cons a r) e s = (valD (ev R a) e s).bind fun d e1 s1 => (evs R r e1 s1).bind fun ds e2 s2 => .ok (d :: ds) e2 s2 := Eq.trans rfl rfl
@[simp] theorem evo_no : evo R .no e s = .ok none e s := Eq.trans rfl rfl
@[simp] theorem evo_yes (a : IE) : evo R (.yes a) e s = (ev R a e s).bind partK := Eq.trans rfl rfl
@[simp] theorem evc_no : evc R .no e s = .ok true e s := Eq.trans rfl rfl
@[simp] theorem evc_yes (a : IE) : evc R (.yes a) e s = testB (ev R a) e s := Eq.trans rfl rfl
@[simp] theorem evi_of (a : IE) : evi R (.of a) e s = (ev R a e s).bind itK := Eq.trans rfl rfl
@[simp] theorem evi_rng1 (a : IE) : evi R (.rng1 a) e s = (ev R a e s).bind rng1K := Eq.trans rfl rfl
@[simp] theorem evi_rng2 (a b : IE) : evi R (.rng2 a b) e s = two (ev R a) (ev R b) rng2K e s := Eq.trans rfl rfl
@[simp] theorem two_def {α : Type} (a b : Env → Store → Res (M × Pl)) (k : M → M → Env → Store → Res α) : two a b k e s = (a e s).bind fun x e1 s1 => (b e1 s1).bind fun y e2 s2 =>
    if same (bw x.1 x.2 s1).2 s1 s2 then k (bw x.1 x.2 s1).1 (bw y.1 y.2 s2).1 e2 s2 else .bad := Eq.trans rfl rfl
@[simp] theorem one_def {α : Type} (a : Env → Store → Res (M × Pl)) (k : M → Env → Store → Res α) : one a k e s = (a e s).bind fun x e1 s1 => k (bw x.1 x.2 s1).1 e1 s1 := Eq.trans rfl rfl
@[simp] theorem valD_def (a : Env → Store → Res (M × Pl)) : valD a e s = (a e s).bind fun x e1 s1 => (vl x.1 x.2 e1 s1).bind fun m e2 s2 => .ok m.frz e2 s2 := Eq.trans rfl rfl
@[simp] theorem valM_def (a : Env → Store → Res (M × Pl)) : valM a e s = (a e s).bind fun x e1 s1 => vl x.1 x.2 e1 s1 := Eq.trans rfl rfl
@[simp] theorem testB_def (a : Env → Store → Res (M × Pl)) : testB a e s = (a e s).bind fun x e1 s1 => getB x.1 e1 s1 := Eq.trans rfl rfl
@[simp] theorem testS_def (a : Env → Store → Res (M × Pl)) : testS a e s = (testB a e s).bind fun k e1 s1 => .ok k (if s1 = s then e else e1) s1 := Eq.trans rfl rfl
@[simp] theorem varK_some (m : M) (i : Nat) : varK (some (some m)) i e s = .ok (m, .slot i) e s := Eq.trans rfl rfl
@[simp] theorem bw_int (i : Int) (p : Pl) : bw (.val (.int i)) p s = (.val (.int i), none) := Eq.trans rfl rfl
@[simp] theorem bw_bl (i : Bool) (p : Pl) : bw (.val (.bl i)) p s = (.val (.bl i), none) := Eq.trans rfl rfl
@[simp] theorem bw_str (i : Str) (p : Pl) : bw (.val (.str i)) p s = (.val (.str i), none) := Eq.trans rfl rfl
@[simp] theorem bw_non (p : Pl) : bw (.val .non) p s = (.val .non, none) := Eq.trans rfl rfl
@[simp] theorem bw_tup (xs : List D) (p : Pl) : bw (.val (.tup xs)) p s = (.val (.tup xs), none) := Eq.trans rfl rfl
@[simp] theorem bw_lst (xs : List D) (p : Pl) : bw (.val (.lst xs)) p s = (.val (.lst xs), none) := Eq.trans rfl rfl
@[simp] theorem bw_dic (t : Bool) (xs : List (D × D)) (p : Pl) : bw (.val (.dic t xs)) p s = (.val (.dic t xs), none) := Eq.trans rfl rfl
@[simp] theorem bw_scr (xs : List Int) (p : Pl) : bw (.val (.scr xs)) p s = (.val (.scr xs), none) := Eq.trans rfl rfl
@[simp] theorem bw_ol (xs : List D) (p : Pl) : bw (.ol xs) p s = (.ol xs, p.src) := Eq.trans rfl rfl
@[simp] theorem bw_od (t : Bool) (xs : List (D × D)) (p : Pl) : bw (.od t xs) p s = (.od t xs, p.src) := Eq.trans rfl rfl
def bwK (o : Option Ent) (n : Nat) : M × Option Nat :=
  match o with
  | some ⟨.lst xs, _⟩ => (.ol xs, some n)
  | some ⟨.dic t kvs, _⟩ => (.od t kvs, some n)
  | _ => (.val (.loc n), none)
@[simp] theorem bw_loc (n : Nat) (p : Pl) : bw (.val (.loc n)) p s = bwK s[n]? n := by
  unfold bw bwK
  dsimp only
  all_goals (split <;> simp_all)
@[simp] theorem bwK_lst (xs : List D) (v n : Nat) : bwK (some ⟨.lst xs, v⟩) n = (.ol xs, some n) := Eq.trans rfl rfl
@[simp] theorem bwK_dic (t : Bool) (xs : List (D × D)) (v n : Nat) : bwK (some ⟨.dic t xs, v⟩) n = (.od t xs, some n) := Eq.trans rfl rfl
@[simp] theorem bwK_ins (k : String) (fs : List (String × M)) (v n : Nat) : bwK (some ⟨.ins k fs, v⟩) n = (.val (.loc n), none) := Eq.trans rfl rfl
@[simp] theorem src_slot (i : Nat) : Pl.src (.slot i) = none := Eq.trans rfl rfl
@[simp] theorem src_tmp : Pl.src .tmp = none := Eq.trans rfl rfl
@[simp] theorem src_oth : Pl.src .oth = none := Eq.trans rfl rfl
@[simp] theorem same_none (s s' : Store) : same none s s' = true := Eq.trans rfl rfl
@[simp] theorem same_self (o : Option Nat) (s : Store) : same o s s = true := by
  cases o with
  | none => rfl
  | some n => exact decide_eq_true rfl
@[simp] theorem out_some (m : M) : out (some m) e s = .ok (m, .tmp) e s := Eq.trans rfl rfl
@[simp] theorem outB_some (b : Bool) : outB (some b) e s = .ok (.val (.bl b), .tmp) e s := Eq.trans rfl rfl
@[simp] theorem outD_some (d : D) : outD (some d) e s = .ok (.val d, .tmp) e s := Eq.trans rfl rfl
@[simp] theorem okV_def (d : D) : okV d e s = .ok (.val d, .tmp) e s := Eq.trans rfl rfl
@[simp] theorem okB_def (d : Bool) : okB d e s = .ok (.val (.bl d), .tmp) e s := Eq.trans rfl rfl
@[simp] theorem vl_val (d : D) (p : Pl) : vl (.val d) p e s = .ok (.val d) e s := Eq.trans rfl rfl
@[simp] theorem vl_tmp (m : M) : vl m .tmp e s = .ok m e s := by cases m <;> rfl
@[simp] theorem vl_ol (xs : List D) (i : Nat) : vl (.ol xs) (.slot i) e s = .ok (.val (.lst xs)) (e.set i (some (.val (.lst xs)))) s := Eq.trans rfl rfl
@[simp] theorem frz_val (d : D) : M.frz (.val d) = d := Eq.trans rfl rfl
@[simp] theorem frz_ol (d : List D) : M.frz (.ol d) = .lst d := Eq.trans rfl rfl
@[simp] theorem getB_bl (b : Bool) : getB (.val (.bl b)) e s = .ok b e s := Eq.trans rfl rfl
@[simp] theorem negK_int (i : Int) : negK (.val (.int i)) e s = .ok (.val (.int (-i)), .tmp) e s := Eq.trans rfl rfl
@[simp] theorem isNK_def (n : Bool) (x : M) : isNK n x e s = .ok (.val (.bl (if n then !decide (x = .val .non) else decide (x = .val .non))), .tmp) e s := Eq.trans rfl rfl
@[simp] theorem bothK_t (k : Env → Store → Res (M × Pl)) : bothK true k e s = k e s := Eq.trans rfl rfl
@[simp] theorem bothK_f (k : Env → Store → Res (M × Pl)) : bothK false k e s = .ok (.val (.bl false), .tmp) e s := Eq.trans rfl rfl
@[simp] theorem eitherK_t (k : Env → Store → Res (M × Pl)) : eitherK true k e s = .ok (.val (.bl true), .tmp) e s := Eq.trans rfl rfl
@[simp] theorem eitherK_f (k : Env → Store → Res (M × Pl)) : eitherK false k e s = k e s := Eq.trans rfl rfl
@[simp] theorem ifeK_t (a b : Env → Store → Res M) : ifeK true a b e s = (a e s).bind fun m e s => .ok (m, .tmp) e s := Eq.trans rfl rfl
@[simp] theorem ifeK_f (a b : Env → Store → Res M) : ifeK false a b e s = (b e s).bind fun m e s => .ok (m, .tmp) e s := Eq.trans rfl rfl
@[simp] theorem lstK_def (ds : List D) : lstK ds e s = .ok (.ol ds, .tmp) e s := Eq.trans rfl rfl
@[simp] theorem partK_int (i : Int) (p : Pl) : partK (.val (.int i), p) e s = .ok (some i) e s := Eq.trans rfl rfl
@[simp] theorem slcK_def (x : M × Pl) (s1 : Store) (l h : Option Int) : slcK x s1 l h e s = if same (bw x.1 x.2 s1).2 s1 s then out (slice (bw x.1 x.2 s1).1 l h) e s else .bad := Eq.trans rfl rfl
@[simp] theorem isiK_def (ts : List Ty) (x : M × Pl) : isiK ts x e s = outB (tyAny s x.1.frz ts) e s := Eq.trans rfl rfl
theorem callK_ok {f : String} {ds : List D} {m : M} {s' : Store} (h : R f ds s = .ok m s') : callK R f ds e s = .ok (m, .tmp) e s' := by
  unfold callK
  rw [h]
  rfl
@[simp] theorem callK_def (f : String) (ds : List D) : callK R f ds e s = outM (ofRR (R f ds s) e) := Eq.trans rfl rfl
@[simp] theorem ofRR_ok (m : M) (s' : Store) : ofRR (.ok m s') e = .ok m e s' := Eq.trans rfl rfl
@[simp] theorem ofRR_err (c : String) (s' : Store) : ofRR (.err c s') e = .err c e s' := Eq.trans rfl rfl
@[simp] theorem outM_ok (m : M) : outM (.ok m e s) = .ok (m, .tmp) e s := Eq.trans rfl rfl
@[simp] theorem outM_err (c : String) : outM (.err c e s) = .err c e s := Eq.trans rfl rfl
@[simp] theorem share_ol (xs : List D) : shareK (.ol xs, .tmp) e s = .ok (.val (.loc s.length), .tmp) e (s ++ [⟨.lst xs, 0⟩]) := Eq.trans rfl rfl
@[simp] theorem share_od (t : Bool) (xs : List (D × D)) : shareK (.od t xs, .tmp) e s = .ok (.val (.loc s.length), .tmp) e (s ++ [⟨.dic t xs, 0⟩]) := Eq.trans rfl rfl
theorem getI_ok' {i : Int} (h1 : -(2 ^ 62) ≤ i) (h2 : i < 2 ^ 62) : getI (.val (.int i)) e s = .ok i e s := if_pos ⟨h1, h2⟩
def tyStep (o r : Option Bool) : Option Bool :=
  match o with
  | some true => some true
  | some false => r
  | none => none
@[simp] theorem tyStep_t (r : Option Bool) : tyStep (some true) r = some true := Eq.trans rfl rfl
@[simp] theorem tyStep_f (r : Option Bool) : tyStep (some false) r = r := Eq.trans rfl rfl
@[simp] theorem tyAny_nil (s : Store) (d : D) : tyAny s d [] = some false := Eq.trans rfl rfl
@[simp] theorem tyAny_cons (s : Store) (d : D) (t : Ty) (ts : List Ty) : tyAny s d (t :: ts) = tyStep (tyIs s d t) (tyAny s d ts) := by
  show (match tyIs s d t with | some true => some true | some false => tyAny s d ts | none => none) = _
  unfold tyStep
  rfl
@[simp] theorem tyIs_non_tup (s : Store)  : tyIs s (.non ) .tup = some false := Eq.trans rfl rfl
@[simp] theorem tyIs_non_lst (s : Store)  : tyIs s (.non ) .lst = some false := Eq.trans rfl rfl
@[simp] theorem tyIs_non_str (s : Store)  : tyIs s (.non ) .str = some false := Eq.trans rfl rfl
@[simp] theorem tyIs_non_bl (s : Store)  : tyIs s (.non ) .bl = some false := Eq.trans rfl rfl
@[simp] theorem tyIs_non_int (s : Store)  : tyIs s (.non ) .int = some false := Eq.trans rfl rfl
@[simp] theorem tyIs_bl_tup (s : Store) (b : Bool) : tyIs s (.bl b) .tup = some false := Eq.trans rfl rfl
@[simp] theorem tyIs_bl_lst (s : Store) (b : Bool) : tyIs s (.bl b) .lst = some false := Eq.trans rfl rfl
@[simp] theorem tyIs_bl_str (s : Store) (b : Bool) : tyIs s (.bl b) .str = some false := Eq.trans rfl rfl
@[simp] theorem tyIs_bl_bl (s : Store) (b : Bool) : tyIs s (.bl b) .bl = some true := Eq.trans rfl rfl
@[simp] theorem tyIs_bl_int (s : Store) (b : Bool) : tyIs s (.bl b) .int = some true := Eq.trans rfl rfl
@[simp] theorem tyIs_int_tup (s : Store) (b : Int) : tyIs s (.int b) .tup = some false := Eq.trans rfl rfl
@[simp] theorem tyIs_int_lst (s : Store) (b : Int) : tyIs s (.int b) .lst = some false := Eq.trans rfl rfl
@[simp] theorem tyIs_int_str (s : Store) (b : Int) : tyIs s (.int b) .str = some false := Eq.trans rfl rfl
@[simp] theorem tyIs_int_bl (s : Store) (b : Int) : tyIs s (.int b) .bl = some false := Eq.trans rfl rfl
@[simp] theorem tyIs_int_int (s : Store) (b : Int) : tyIs s (.int b) .int = some true := Eq.trans rfl rfl
@[simp] theorem tyIs_str_tup (s : Store) (b : Str) : tyIs s (.str b) .tup = some false := Eq.trans rfl rfl
@[simp] theorem tyIs_str_lst (s : Store) (b : Str) : tyIs s (.str b) .lst = some false := Eq.trans rfl rfl
@[simp] theorem tyIs_str_str (s : Store) (b : Str) : tyIs s (.str b) .str = some true := Eq.trans rfl rfl
@[simp] theorem tyIs_str_bl (s : Store) (b : Str) : tyIs s (.str b) .bl = some false := Eq.trans rfl rfl
@[simp] theorem tyIs_str_int (s : Store) (b : Str) : tyIs s (.str b) .int = some false := Eq.trans rfl rfl
@[simp] theorem tyIs_tup_tup (s : Store) (b : List D) : tyIs s (.tup b) .tup = some true := Eq.trans rfl rfl
@[simp] theorem tyIs_tup_lst (s : Store) (b : List D) : tyIs s (.tup b) .lst = some false := Eq.trans rfl rfl
@[simp] theorem tyIs_tup_str (s : Store) (b : List D) : tyIs s (.tup b) .str = some false := Eq.trans rfl rfl
@[simp] theorem tyIs_tup_bl (s : Store) (b : List D) : tyIs s (.tup b) .bl = some false := Eq.trans rfl rfl
@[simp] theorem tyIs_tup_int (s : Store) (b : List D) : tyIs s (.tup b) .int = some false := Eq.trans rfl rfl
@[simp] theorem tyIs_lst_tup (s : Store) (b : List D) : tyIs s (.lst b) .tup = some false := Eq.trans rfl rfl
@[simp] theorem tyIs_lst_lst (s : Store) (b : List D) : tyIs s (.lst b) .lst = some true := Eq.trans rfl rfl
@[simp] theorem tyIs_lst_str (s : Store) (b : List D) : tyIs s (.lst b) .str = some false := Eq.trans rfl rfl
@[simp] theorem tyIs_lst_bl (s : Store) (b : List D) : tyIs s (.lst b) .bl = some false := Eq.trans rfl rfl
@[simp] theorem tyIs_lst_int (s : Store) (b : List D) : tyIs s (.lst b) .int = some false := Eq.trans rfl rfl
theorem getI_len {n : Nat} (h : n ≤ LIM) : getI (.val (.int n)) e s = .ok (n : Int) e s := by
  have h2 : n ≤ 16777216 := h
  exact getI_ok' (by omega) (by omega)
@[simp] theorem rng1_int (i : Int) (p : Pl) : rng1K (.val (.int i), p) e s = (getI (.val (.int i)) e s).bind fun j e s => .ok (rng 0 j, []) e s := Eq.trans rfl rfl
/-! the operators at plain values -/
@[simp] theorem bin_addI (i j : Int) : bin .add (.val (.int i)) (.val (.int j)) = some (.val (.int (i + j))) := Eq.trans rfl rfl
@[simp] theorem bin_subI (i j : Int) : bin .sub (.val (.int i)) (.val (.int j)) = some (.val (.int (i - j))) := Eq.trans rfl rfl
theorem bin_mulI {i j : Int} (h : (-(2 ^ 64) < i ∧ i < 2 ^ 64) ∨ (-(2 ^ 64) < j ∧ j < 2 ^ 64)) : bin .mul (.val (.int i)) (.val (.int j)) = some (.val (.int (i * j))) := if_pos h
theorem bin_mulR {i j : Int} (h1 : -(2 ^ 64) < j) (h2 : j < 2 ^ 64) : bin .mul (.val (.int i)) (.val (.int j)) = some (.val (.int (i * j))) := if_pos (.inr ⟨h1, h2⟩)
theorem bin_modI {i j : Int} (h : 0 < j) : bin .mod (.val (.int i)) (.val (.int j)) = some (.val (.int (i % j))) := by
  show ((if 0 < j then some (i % j) else none).map fun k => M.val (.int k)) = _
  rw [if_pos h]
  rfl
theorem bin_fdivI {i j : Int} (h : 0 < j) (h2 : j < 2 ^ 64) : bin .fdiv (.val (.int i)) (.val (.int j)) = some (.val (.int (i / j))) := by
  have h3 : j.natAbs.log2 < 9000 := by
    have h4 : j.natAbs < 2 ^ 64 := by omega
    have h5 : j.natAbs.log2 < 64 := (Nat.log2_lt (by omega)).mpr h4
    omega
  show ((if 0 < j ∧ j.natAbs.log2 < 9000 then some (i / j) else none).map fun k => M.val (.int k)) = _
  rw [if_pos ⟨h, h3⟩]
  rfl
theorem bin_powI {i j : Int} (h : 0 ≤ j ∧ j ≤ 1000000 ∧ i.natAbs < 2 ^ 64) : bin .pow (.val (.int i)) (.val (.int j)) = some (.val (.int (i ^ j.toNat))) := by
  show ((if 0 ≤ j ∧ j ≤ 1000000 ∧ i.natAbs < 2 ^ 64 then some (i ^ j.toNat) else none).map fun k => M.val (.int k)) = _
  rw [if_pos h]
  rfl
theorem bin_addT {xs ys : List D} (h : xs.length + ys.length ≤ LIM) : bin .add (.val (.tup xs)) (.val (.tup ys)) = some (.val (.tup (xs ++ ys))) := if_pos h
theorem bin_addL {a b : M} {xs ys : List D} (ha : a.lst1? = some xs) (hb : b.lst1? = some ys) (h : xs.length + ys.length ≤ LIM) : bin .add a b = some (.ol (xs ++ ys)) := by
  show addM a b = _
  unfold addM
  split
  · cases ha
  · cases ha
  · cases ha
  · rw [ha, hb]
    exact if_pos h
@[simp] theorem cmp_ltI (i j : Int) : cmp .lt (.val (.int i)) (.val (.int j)) = some (decide (i < j)) := Eq.trans rfl rfl
@[simp] theorem cmp_leI (i j : Int) : cmp .le (.val (.int i)) (.val (.int j)) = some (decide (i ≤ j)) := Eq.trans rfl rfl
@[simp] theorem cmp_gtI (i j : Int) : cmp .gt (.val (.int i)) (.val (.int j)) = some (decide (j < i)) := Eq.trans rfl rfl
@[simp] theorem cmp_geI (i j : Int) : cmp .ge (.val (.int i)) (.val (.int j)) = some (decide (j ≤ i)) := Eq.trans rfl rfl
@[simp] theorem cmp_eqI (i j : Int) : cmp .eq (.val (.int i)) (.val (.int j)) = some (decide (i = j)) := by
  show some (i == j) = _
  rw [Bool.beq_eq_decide_eq]
@[simp] theorem cmp_neI (i j : Int) : cmp .ne (.val (.int i)) (.val (.int j)) = some (!decide (i = j)) := by
  show some (!(i == j)) = _
  rw [Bool.beq_eq_decide_eq]
@[simp] theorem cmp_eqB (i j : Bool) : cmp .eq (.val (.bl i)) (.val (.bl j)) = some (decide (i = j)) := by cases i <;> cases j <;> rfl
@[simp] theorem cmp_neB (i j : Bool) : cmp .ne (.val (.bl i)) (.val (.bl j)) = some (!decide (i = j)) := by cases i <;> cases j <;> rfl
@[simp] theorem cmp_eqS (i j : Str) : cmp .eq (.val (.str i)) (.val (.str j)) = some (decide (i = j)) := Eq.trans rfl rfl
@[simp] theorem cmp_neS (i j : Str) : cmp .ne (.val (.str i)) (.val (.str j)) = some (!decide (i = j)) := Eq.trans rfl rfl
@[simp] theorem cmp_eqL0 : cmp .eq (.ol []) (.ol []) = some true := Eq.trans rfl rfl
@[simp] theorem lst1_ol (xs : List D) : M.lst1? (.ol xs) = some xs := Eq.trans rfl rfl
@[simp] theorem lst1_lst (xs : List D) : M.lst1? (.val (.lst xs)) = some xs := Eq.trans rfl rfl
@[simp] theorem index_ol (xs : List D) (i : Int) : index (.ol xs) (.val (.int i)) = L2.atI xs i := Eq.trans rfl rfl
@[simp] theorem index_lst (xs : List D) (i : Int) : index (.val (.lst xs)) (.val (.int i)) = L2.atI xs i := Eq.trans rfl rfl
@[simp] theorem index_tup (xs : List D) (i : Int) : index (.val (.tup xs)) (.val (.int i)) = L2.atI xs i := Eq.trans rfl rfl
@[simp] theorem index_scr (xs : List Int) (i : Int) : index (.val (.scr xs)) (.val (.int i)) = L2.atI (xs.map .int) i := Eq.trans rfl rfl
theorem atI_at {α : Type} {xs : List α} {i : Int} {k : Nat} (h : i = (k : Int)) (hk : k < xs.length) : L2.atI xs i = xs[k]? := by
  subst h
  unfold L2.atI L2.ixN
  rw [if_pos (Int.natCast_nonneg k), if_pos (by exact_mod_cast hk)]
  rfl
@[simp] theorem atI_c0 {α : Type} (a0 : α) (r : List α) : L2.atI (a0 :: r) 0 = some a0 := (atI_at (i := 0) (k := 0) rfl (by simp only [List.length_cons]; omega)).trans rfl
@[simp] theorem atI_c1 {α : Type} (a0 a1 : α) (r : List α) : L2.atI (a0 :: a1 :: r) 1 = some a1 := (atI_at (i := 1) (k := 1) rfl (by simp only [List.length_cons]; omega)).trans rfl
@[simp] theorem atI_c2 {α : Type} (a0 a1 a2 : α) (r : List α) : L2.atI (a0 :: a1 :: a2 :: r) 2 = some a2 := (atI_at (i := 2) (k := 2) rfl (by simp only [List.length_cons]; omega)).trans rfl
@[simp] theorem atI_c3 {α : Type} (a0 a1 a2 a3 : α) (r : List α) : L2.atI (a0 :: a1 :: a2 :: a3 :: r) 3 = some a3 := (atI_at (i := 3) (k := 3) rfl (by simp only [List.length_cons]; omega)).trans rfl
@[simp] theorem atI_c4 {α : Type} (a0 a1 a2 a3 a4 : α) (r : List α) : L2.atI (a0 :: a1 :: a2 :: a3 :: a4 :: r) 4 = some a4 := (atI_at (i := 4) (k := 4) rfl (by simp only [List.length_cons]; omega)).trans rfl
@[simp] theorem atI_c5 {α : Type} (a0 a1 a2 a3 a4 a5 : α) (r : List α) : L2.atI (a0 :: a1 :: a2 :: a3 :: a4 :: a5 :: r) 5 = some a5 := (atI_at (i := 5) (k := 5) rfl (by simp only [List.length_cons]; omega)).trans rfl
@[simp] theorem atI_c6 {α : Type} (a0 a1 a2 a3 a4 a5 a6 : α) (r : List α) : L2.atI (a0 :: a1 :: a2 :: a3 :: a4 :: a5 :: a6 :: r) 6 = some a6 := (atI_at (i := 6) (k := 6) rfl (by simp only [List.length_cons]; omega)).trans rfl
@[simp] theorem atI_c7 {α : Type} (a0 a1 a2 a3 a4 a5 a6 a7 : α) (r : List α) : L2.atI (a0 :: a1 :: a2 :: a3 :: a4 :: a5 :: a6 :: a7 :: r) 7 = some a7 := (atI_at (i := 7) (k := 7) rfl (by simp only [List.length_cons]; omega)).trans rfl
@[simp] theorem atI_c8 {α : Type} (a0 a1 a2 a3 a4 a5 a6 a7 a8 : α) (r : List α) : L2.atI (a0 :: a1 :: a2 :: a3 :: a4 :: a5 :: a6 :: a7 :: a8 :: r) 8 = some a8 := (atI_at (i := 8) (k := 8) rfl (by simp only [List.length_cons]; omega)).trans rfl
@[simp] theorem len_ol (xs : List D) : bi1 "len" (.ol xs) = some (.val (.int xs.length)) := Eq.trans rfl rfl
@[simp] theorem len_lst' (xs : List D) : bi1 "len" (.val (.lst xs)) = some (.val (.int xs.length)) := Eq.trans rfl rfl
@[simp] theorem len_tup (xs : List D) : bi1 "len" (.val (.tup xs)) = some (.val (.int xs.length)) := Eq.trans rfl rfl
@[simp] theorem len_scr (xs : List Int) : bi1 "len" (.val (.scr xs)) = some (.val (.int xs.length)) := by
  show some (M.val (.int ((xs.map D.int).length : Nat))) = _
  rw [List.length_map]
@[simp] theorem tuple_ol (xs : List D) : bi1 "tuple" (.ol xs) = some (.val (.tup xs)) := Eq.trans rfl rfl
@[simp] theorem tuple_lst (xs : List D) : bi1 "tuple" (.val (.lst xs)) = some (.val (.tup xs)) := Eq.trans rfl rfl
@[simp] theorem int_bl (b : Bool) : bi1 "int" (.val (.bl b)) = some (.val (.int (if b then 1 else 0))) := Eq.trans rfl rfl
end

/-! ### statements -/
section
variable {R : Runs} {W : Nat} {e : Env} {s : Store}
@[simp] theorem ex_nil : execs R W .nil e s = .ok .nx e s := Eq.trans rfl rfl
@[simp] theorem ex_cons (a : IS) (r : ISs) : execs R W (.cons a r) e s = (exec R W a e s).bind fun f e s => match f with
    | .nx => execs R W r e s
    | .ret m => .ok (.ret m) e s := Eq.trans rfl rfl
@[simp] theorem ex_asg (t : Tg) (a : IE) : exec R W (.asg t a) e s = (valM (ev R a) e s).bind fun m e1 s1 => match store t m (keep m e e1 s s1) with
    | some e2 => .ok .nx e2 s1
    | none => .bad := Eq.trans rfl rfl
@[simp] theorem ex_ret (a : IE) : exec R W (.ret a) e s = (ev R a e s).bind fun x e1 s1 => moved x e1 s1 := Eq.trans rfl rfl
@[simp] theorem ex_ifs (c : IE) (a b : ISs) : exec R W (.ifs c a b) e s = (testS (ev R c) e s).bind fun k e1 s1 => if k then execs R W a e1 s1 else execs R W b e1 s1 := Eq.trans rfl rfl
@[simp] theorem ex_expr (a : IE) : exec R W (.expr a) e s = (valM (ev R a) e s).bind fun _ e1 s1 => .ok .nx (if s1 = s then e else e1) s1 := Eq.trans rfl rfl
@[simp] theorem ex_setI (o i a : IE) : exec R W (.setI o i a) e s = (valD (ev R a) e s).bind fun d e1 s1 => (ev R o e1 s1).bind fun x e2 s2 => (valD (ev R i) e2 s2).bind fun k e3 s3 => atK o.slot? x s2 (fun m => setItem m k d) e3 s3 := Eq.trans rfl rfl
@[simp] theorem ex_mut0 (f : String) (o : IE) : exec R W (.mut0 f o) e s = (ev R o e s).bind fun x e1 s1 => mut0K f o.slot? x e1 s1 := Eq.trans rfl rfl
@[simp] theorem ex_mut1 (f : String) (o a : IE) : exec R W (.mut1 f o a) e s = (ev R o e s).bind fun x e1 s1 => mut1K f o.slot? (valD (ev R a)) x e1 s1 := Eq.trans rfl rfl
@[simp] theorem ex_fors (tg : Tg) (it : It) (b : ISs) : exec R W (.fors tg it b) e s = (evi R it e s).bind fun x e1 s1 => if apart x.2 (tg.slots ++ wrs b) then forL x.2 s1 tg (execs R W b) x.1 e1 s1 else .bad := Eq.trans rfl rfl
@[simp] theorem ex_whil (c : IE) (b : ISs) : exec R W (.whil c b) e s = whileL (testS (ev R c)) (execs R W b) W e s := Eq.trans rfl rfl
@[simp] theorem forL_nil (src : List Src) (s0 : Store) (tg : Tg) (b : Env → Store → Res Flow) : forL src s0 tg b [] e s = if still src s0 s then .ok .nx e s else .bad := Eq.trans rfl rfl
theorem forL_cons (src : List Src) (s0 : Store) (tg : Tg) (b : Env → Store → Res Flow) (x : D) (xs : List D) : forL src s0 tg b (x :: xs) e s = if still src s0 s then (match store tg (.val x) e with
    | none => .bad
    | some e => (b e s).bind fun f e s => match f with
      | .nx => forL src s0 tg b xs e s
      | .ret m => .ok (.ret m) e s) else .bad := Eq.trans rfl rfl
@[simp] theorem still_nil (s s' : Store) : still [] s s' = true := Eq.trans rfl rfl
@[simp] theorem still_slot (i : Nat) (ws : List Src) (s s' : Store) : still (.slot i :: ws) s s' = still ws s s' := Eq.trans rfl rfl
theorem still_ent (i : Nat) (ws : List Src) (s s' : Store) : still (.ent i :: ws) s s' = (decide (s[i]? = s'[i]?) && still ws s s') := rfl
@[simp] theorem still_self (ws : List Src) (s : Store) : still ws s s = true := by
  unfold still
  rw [List.all_eq_true]
  intro w _
  cases w with
  | ent n => exact decide_eq_true rfl
  | slot i => rfl
@[simp] theorem apart_nil (l : List Nat) : apart [] l = true := Eq.trans rfl rfl
@[simp] theorem quiet_ok' {α : Type} (a : α) : quiet (.ok a e s) = .ok a e s := Eq.trans rfl rfl
/-- a comprehension that takes nothing -/
theorem lc_none {src : List Src} {s0 : Store} {own : List Nat} {tg : Tg} {test : Env → Store → Res Bool} {elt : Env → Store → Res D} (hs : still src s0 s = true) : ∀ {l : List D} (acc : List D), (∀ x ∈ l, ∃ e1 e2, store tg (.val x) e = some e1 ∧ test e1 s = .ok false e2 s ∧ wipe e2 own = e) → lcL src s0 own tg test elt l acc e s = .ok acc e s
  | [], acc, _ => if_pos hs
  | x :: l, acc, h => by
    obtain ⟨e1, e2, h1, h2, h3⟩ := h x (List.mem_cons_self ..)
    unfold lcL
    rw [if_pos hs, h1]
    dsimp only
    rw [h2]
    simp only [quiet_ok', bind_ok, Bool.false_eq_true, if_false]
    rw [h3]
    exact lc_none hs acc fun y hy => h y (List.mem_cons_of_mem _ hy)
/-- a comprehension that takes all -/
theorem lc_all {src : List Src} {s0 : Store} {own : List Nat} {tg : Tg} {test : Env → Store → Res Bool} {elt : Env → Store → Res D} {g : D → D} (hs : still src s0 s = true) : ∀ {l : List D} (acc : List D), (∀ x ∈ l, ∃ e1 e2 e3, store tg (.val x) e = some e1 ∧ test e1 s = .ok true e2 s ∧ elt e2 s = .ok (g x) e3 s ∧ wipe e3 own = e) → lcL src s0 own tg test elt l acc e s = .ok (acc ++ l.map g) e s
  | [], acc, _ => by
    rw [List.map_nil, List.append_nil]
    exact if_pos hs
  | x :: l, acc, h => by
    obtain ⟨e1, e2, e3, h1, h2, h3, h4⟩ := h x (List.mem_cons_self ..)
    unfold lcL
    rw [if_pos hs, h1]
    dsimp only
    rw [h2]
    simp only [quiet_ok', bind_ok, if_true]
    rw [h3]
    simp only [quiet_ok', bind_ok]
    rw [h4, lc_all hs (acc ++ [g x]) fun y hy => h y (List.mem_cons_of_mem _ hy), List.map_cons, List.append_assoc]
    rfl
@[simp] theorem moved_val (d : D) (p : Pl) : moved (.val d, p) e s = .ok (.ret (.val d)) e s := Eq.trans rfl rfl
@[simp] theorem moved_tmp (m : M) : moved (m, .tmp) e s = .ok (.ret m) e s := by cases m <;> rfl
@[simp] theorem moved_slot (m : M) (i : Nat) : moved (m, .slot i) e s = .ok (.ret m) e s := by cases m <;> rfl
@[simp] theorem store_one {i : Nat} {m : M} : store (.one i) m e = if i < e.length then some (e.set i (some m)) else none := Eq.trans rfl rfl
@[simp] theorem store_many {is : List Nat} {ds : List D} : store (.many is) (.val (.tup ds)) e = setNames is ds e := Eq.trans rfl rfl
@[simp] theorem setNames_nil : setNames [] [] e = some e := Eq.trans rfl rfl
@[simp] theorem setNames_cons (i : Nat) (is : List Nat) (d : D) (ds : List D) : setNames (i :: is) (d :: ds) e = if i < e.length then setNames is ds (e.set i (some (.val d))) else none := Eq.trans rfl rfl
@[simp] theorem keep_same (m : M) (s0 s1 : Store) : keep m e e s0 s1 = e := by unfold keep; split <;> rfl
@[simp] theorem keep_tup (xs : List D) (e1 : Env) (s0 s1 : Store) : keep (.val (.tup xs)) e e1 s0 s1 = e1 := if_neg fun h => nomatch h.1
@[simp] theorem keep_lst (xs : List D) (e1 : Env) (s0 s1 : Store) : keep (.val (.lst xs)) e e1 s0 s1 = e1 := if_neg fun h => nomatch h.1
@[simp] theorem keep_ol (xs : List D) (e1 : Env) (s0 s1 : Store) : keep (.ol xs) e e1 s0 s1 = e1 := if_neg fun h => nomatch h.1
@[simp] theorem keep_loc (n : Nat) (e1 : Env) (s0 s1 : Store) : keep (.val (.loc n)) e e1 s0 s1 = e1 := if_neg fun h => nomatch h.1
theorem gc_self (m : M) : gc s m s = s := by unfold gc; split <;> rfl
theorem run_eq {P : Prog} {n : Nat} {f : String} {fn : Fn} {ds : List D} (h : look P f = some fn) (h1 : ds.length = fn.np) (h2 : fn.np ≤ fn.ns) : run P W (n + 1) f ds s = fin s (execs (run P W n) W fn.body (begun fn ds) s) := by
  show (match look P f with
    | some fn => if ds.length = fn.np ∧ fn.np ≤ fn.ns then fin s (execs (run P W n) W fn.body (begun fn ds) s) else .bad
    | none => .bad) = _
  rw [h]
  exact if_pos ⟨h1, h2⟩
@[simp] theorem fin_ret (m : M) (s0 : Store) : fin s0 (.ok (.ret m) e s) = .ok m (gc s0 m s) := Eq.trans rfl rfl
@[simp] theorem fin_nx (s0 : Store) : fin s0 (.ok .nx e s) = .ok (.val .non) (gc s0 (.val .non) s) := Eq.trans rfl rfl
/-- an object of the store, changed -/
def atL (o : Option Ent) (n : Nat) (f : M → Option M) (e : Env) (s : Store) : Res Flow :=
  match o with
  | some ⟨.lst xs, v⟩ => match f (.ol xs) with
    | some (.ol ys) => .ok .nx e (s.set n ⟨.lst ys, v + 1⟩)
    | _ => .bad
  | some ⟨.dic t kvs, v⟩ => match f (.od t kvs) with
    | some (.od u ys) => .ok .nx e (s.set n ⟨.dic u ys, v + 1⟩)
    | _ => .bad
  | _ => .bad
@[simp] theorem at_loc (n : Nat) (sl : List Nat) (p : Pl) (f : M → Option M) (s1 : Store) : atK sl (.val (.loc n), p) s1 f e s = atL s[n]? n f e s := by
  unfold atK hold atL
  dsimp only
  have h1 : same (Pl.fsrc (.obj n)) s1 s = true := rfl
  rw [if_pos h1]
  unfold curr
  cases h : s[n]? with
  | none => simp only [h]
  | some en =>
    obtain ⟨o, v⟩ := en
    cases o with
    | ins k fs => simp only [h]
    | lst xs =>
      simp only [h]
      unfold pushPl
      cases f (.ol xs) with
      | none => rfl
      | some m =>
        unfold put
        simp only [h]
        cases m <;> rfl
    | dic t xs =>
      simp only [h]
      unfold pushPl
      cases f (.od t xs) with
      | none => rfl
      | some m =>
        unfold put
        simp only [h]
        cases m <;> rfl
@[simp] theorem atL_lst (xs : List D) (v n : Nat) (f : M → Option M) : atL (some ⟨.lst xs, v⟩) n f e s = match f (.ol xs) with
    | some (.ol ys) => .ok .nx e (s.set n ⟨.lst ys, v + 1⟩)
    | _ => .bad := Eq.trans rfl rfl
@[simp] theorem atL_dic (t : Bool) (xs : List (D × D)) (v n : Nat) (f : M → Option M) : atL (some ⟨.dic t xs, v⟩) n f e s = match f (.od t xs) with
    | some (.od u ys) => .ok .nx e (s.set n ⟨.dic u ys, v + 1⟩)
    | _ => .bad := Eq.trans rfl rfl
@[simp] theorem setItem_ol (xs : List D) (i : Int) (d : D) : setItem (.ol xs) (.int i) d = (L2.ixN xs.length i).map fun j => .ol (xs.set j d) := Eq.trans rfl rfl
theorem at_slot {i : Nat} {m0 m m' : M} {sl : List Nat} {f : M → Option M} {s1 : Store} (h0 : m0.isVal = false) (hi : i ∈ sl) (h : e[i]? = some (some m)) (hf : f m = some m') : atK sl (m0, .slot i) s1 f e s = .ok .nx (e.set i (some m')) s := by
  have hh : hold sl m0 (.slot i) = some (.slot i) := by
    cases m0 with
    | val d => cases h0
    | ol xs => exact if_pos hi
    | od t kvs => exact if_pos hi
  unfold atK
  dsimp only
  rw [hh]
  dsimp only
  have h1 : same (Pl.fsrc (.slot i)) s1 s = true := rfl
  rw [if_pos h1]
  unfold curr
  simp only [h]
  unfold pushPl
  rw [hf]
  rfl
/-- what a slot's container becomes -/
def atS (o : Option (Option M)) (i : Nat) (f : M → Option M) (e : Env) (s : Store) : Res Flow :=
  match o with
  | some (some m) => match f m with
    | some m' => .ok .nx (e.set i (some m')) s
    | none => .bad
  | _ => .bad
theorem at_slotL {xs : List D} {i : Nat} {sl : List Nat} {f : M → Option M} {s1 : Store} : atK sl (.ol xs, .slot i) s1 f e s = if i ∈ sl then atS e[i]? i f e s else .bad := by
  have hh : hold sl (.ol xs) (.slot i) = if i ∈ sl then some (.slot i) else none := rfl
  unfold atK
  dsimp only
  rw [hh]
  by_cases hi : i ∈ sl
  · rw [if_pos hi, if_pos hi]
    dsimp only
    have h1 : same (Pl.fsrc (.slot i)) s1 s = true := rfl
    rw [if_pos h1]
    unfold curr atS
    dsimp only
    cases h : e[i]? with
    | none => rfl
    | some o =>
      cases o with
      | none => rfl
      | some m =>
        dsimp only
        unfold pushPl
        cases f m <;> rfl
  · rw [if_neg hi, if_neg hi]
    exact if_neg fun z => nomatch z.1
@[simp] theorem at_slot' {xs : List D} {i : Nat} {sl : List Nat} {f : M → Option M} {s1 : Store} : atK sl (.ol xs, .slot i) s1 f e s = if i ∈ sl then atS e[i]? i f e s else .bad := at_slotL
@[simp] theorem atS_some (m : M) (i : Nat) (f : M → Option M) : atS (some (some m)) i f e s = match f m with
    | some m' => .ok .nx (e.set i (some m')) s
    | none => .bad := Eq.trans rfl rfl
@[simp] theorem slot_var (i : Nat) : IE.slot? (.var i) = [i] := Eq.trans rfl rfl
@[simp] theorem mut0K_def (f : String) (sl : List Nat) (x : M × Pl) : mut0K f sl x e s = atK sl x s (mutate0 f) e s := Eq.trans rfl rfl
@[simp] theorem mut1K_def (f : String) (sl : List Nat) (a : Env → Store → Res D) (x : M × Pl) : mut1K f sl a x e s = if kindOk f (bw x.1 x.2 s).1 then (a e s).bind fun d e2 s2 => atK sl x s (fun m => mutate1 f m d) e2 s2 else .bad := Eq.trans rfl rfl
@[simp] theorem kind_app (xs : List D) : kindOk "append" (.ol xs) = true := Eq.trans rfl rfl
@[simp] theorem kind_ext (xs : List D) : kindOk "extend" (.ol xs) = true := Eq.trans rfl rfl
@[simp] theorem mut_app (xs : List D) (d : D) : mutate1 "append" (.ol xs) d = if xs.length < LIM then some (.ol (xs ++ [d])) else none := Eq.trans rfl rfl
@[simp] theorem mut_ext (xs ys : List D) : mutate1 "extend" (.ol xs) (.lst ys) = if xs.length + ys.length ≤ LIM then some (.ol (xs ++ ys)) else none := Eq.trans rfl rfl
@[simp] theorem mut_clear (xs : List D) : mutate0 "clear" (.ol xs) = some (.ol []) := Eq.trans rfl rfl
@[simp] theorem mut_rev (xs : List D) : mutate0 "reverse" (.ol xs) = some (.ol xs.reverse) := Eq.trans rfl rfl
/-- a walk by its invariant -/
theorem forL_inv {src : List Src} {s0 : Store} {tg : Tg} {body : Env → Store → Res Flow} {Inv : Env → Store → Prop} (hs : ∀ e s, Inv e s → still src s0 s = true) : ∀ {l : List D} {e : Env} {s : Store}, (∀ x ∈ l, ∀ e s, Inv e s → ∃ e1 e2 s2, store tg (.val x) e = some e1 ∧ body e1 s = .ok .nx e2 s2 ∧ Inv e2 s2) → Inv e s →
    ∃ e' s', forL src s0 tg body l e s = .ok .nx e' s' ∧ Inv e' s'
  | [], e, s, _, h => ⟨e, s, if_pos (hs e s h), h⟩
  | x :: l, e, s, st, h => by
    obtain ⟨e1, e2, s2, h1, h2, h3⟩ := st x (List.mem_cons_self ..) e s h
    obtain ⟨e', s', h4, h5⟩ := forL_inv hs (fun y hy => st y (List.mem_cons_of_mem _ hy)) h3
    refine ⟨e', s', ?_, h5⟩
    rw [forL_cons, if_pos (hs e s h), h1]
    dsimp only
    rw [h2]
    exact h4
theorem whileL_succ (t : Env → Store → Res Bool) (b : Env → Store → Res Flow) (k : Nat) : whileL t b (k + 1) e s = (t e s).bind fun c e s => if c then (b e s).bind fun f e s => match f with
    | .nx => whileL t b k e s
    | .ret m => .ok (.ret m) e s
    else .ok .nx e s := Eq.trans rfl rfl
theorem lay_nil : (D.tup []).lay = true := rfl
theorem eqv_T0 (xs : List D) : eqv (.tup xs) (.tup []) = xs.isEmpty := by cases xs <;> rfl
theorem eq_T0 {xs : List D} (h : (D.tup xs).lay = true) : cmp .eq (.val (.tup xs)) (.val (.tup [])) = some xs.isEmpty := by
  show (if cmpOk (.tup xs) (.tup []) = true then some (eqv (.tup xs) (.tup [])) else none) = _
  have hk : cmpOk (.tup xs) (.tup []) = true := by
    unfold cmpOk
    rw [h, lay_nil, Bool.true_and, Bool.true_and]
    exact decide_eq_true (Nat.le_trans (Nat.min_le_right _ _) (show (D.tup []).deep ≤ 64 by decide))
  rw [if_pos hk, eqv_T0]
theorem ne_T0 {xs : List D} (h : (D.tup xs).lay = true) : cmp .ne (.val (.tup xs)) (.val (.tup [])) = some (!xs.isEmpty) := by
  show (cmp .eq (.val (.tup xs)) (.val (.tup []))).map _ = _
  rw [eq_T0 h]
  rfl
end
end OI

/-! OIz: the laws' own helpers: the script's numbers drawn. -/
namespace OI
open PySem (Str)
def fStart : Fn := ⟨1, 3, (.cons (.asg (.one 1) (.cst (.int 1)))
  (.cons (.fors (.one 2) (.of (.var 0)) (.cons (.asg (.one 1) (.bin .mod (.bin .add (.bin .add (.bin .mul (.var 1) (.cst (.int 48271))) (.var 2)) (.cst (.int 7))) (.cst (.int 2147483647))))
  .nil))
  (.cons (.ret (.share (.lst (.cons (.var 0) (.cons (.cst (.int 0)) (.cons (.var 1) (.cons (.cst (.int 0)) .nil)))))))
  .nil)))⟩
def fDrawn : Fn := ⟨2, 4, (.cons (.ifs (.cmp .gt (.idx (.var 0) (.cst (.int 3))) (.cst (.int 0))) (.cons (.asg (.one 2) (.bin .mod (.idx (.var 0) (.cst (.int 3))) (.var 1)))
  (.cons (.setI (.var 0) (.cst (.int 3)) (.bin .fdiv (.idx (.var 0) (.cst (.int 3))) (.var 1)))
  (.cons (.ret (.var 2))
  .nil))) .nil)
  (.cons (.setI (.var 0) (.cst (.int 1)) (.bin .add (.idx (.var 0) (.cst (.int 1))) (.cst (.int 1))))
  (.cons (.ifs (.cmp .le (.idx (.var 0) (.cst (.int 1))) (.bi1 "len" (.idx (.var 0) (.cst (.int 0))))) (.cons (.asg (.one 3) (.idx (.idx (.var 0) (.cst (.int 0))) (.bin .sub (.idx (.var 0) (.cst (.int 1))) (.cst (.int 1)))))
  (.cons (.setI (.var 0) (.cst (.int 3)) (.ife (.cmp .ge (.var 3) (.bin .pow (.cst (.int 10)) (.cst (.int 18)))) (.bin .fdiv (.var 3) (.var 1)) (.cst (.int 0))))
  (.cons (.ret (.bin .mod (.var 3) (.var 1)))
  .nil))) .nil)
  (.cons (.setI (.var 0) (.cst (.int 2)) (.bin .mod (.bin .add (.bin .mul (.idx (.var 0) (.cst (.int 2))) (.cst (.int 48271))) (.cst (.int 11))) (.cst (.int 2147483647))))
  (.cons (.ret (.bin .mod (.bin .fdiv (.idx (.var 0) (.cst (.int 2))) (.cst (.int 7))) (.var 1)))
  .nil)))))⟩
def fSame : Fn := ⟨2, 3, (.cons (.ifs (.isi (.var 1) false [.tup, .lst]) (.cons (.ifs (.either (.nott (.isi (.var 0) false [.tup, .lst])) (.cmp .ne (.isi (.var 0) true [.lst]) (.isi (.var 1) true [.lst]))) (.cons (.ret (.cst (.bl false)))
  .nil) .nil)
  (.cons (.ifs (.cmp .ne (.bi1 "len" (.var 0)) (.bi1 "len" (.var 1))) (.cons (.ret (.cst (.bl false)))
  .nil) .nil)
  (.cons (.ret (.cmp .eq (.lc (.var 2) (.one 2) (.rng1 (.bi1 "len" (.var 1))) (.yes (.nott (.call "_law_same" (.cons (.idx (.var 0) (.var 2)) (.cons (.idx (.var 1) (.var 2)) .nil))))) [2]) (.lst .nil)))
  .nil))) .nil)
  (.cons (.ifs (.isN false (.var 1)) (.cons (.ret (.isN false (.var 0)))
  .nil) .nil)
  (.cons (.ifs (.isi (.var 1) true [.str]) (.cons (.ret (.both (.isi (.var 0) true [.str]) (.cmp .eq (.var 0) (.var 1))))
  .nil) .nil)
  (.cons (.ifs (.either (.isi (.var 1) true [.bl]) (.isi (.var 0) true [.bl])) (.cons (.ret (.both (.isi (.var 1) true [.bl]) (.both (.isi (.var 0) true [.bl]) (.cmp .eq (.var 0) (.var 1)))))
  .nil) .nil)
  (.cons (.ret (.both (.isi (.var 0) true [.int]) (.cmp .eq (.var 0) (.var 1))))
  .nil)))))⟩
theorem gc_len {s s' : Store} {m : M} (h : s'.length ≤ s.length) : gc s m s' = s' := by
  unfold gc
  split
  · rename_i hg
    rw [← hg.1]
    exact List.take_of_length_le h
  · rfl
/-- the state of the drawing, at the store's first place -/
def St (ns : List Int) (s : Store) : Prop := ∃ (pos mixed rest : Int) (v : Nat), s[0]? = some ⟨.lst [.scr ns, .int pos, .int mixed, .int rest], v⟩ ∧ 0 ≤ pos
/-- only the drawing goes on -/
def Dr (ns : List Int) (s s' : Store) : Prop := St ns s' ∧ ∃ en, s' = s.set 0 en
section
variable {P : Prog} {W n : Nat} {s : Store} {ns : List Int}
theorem drawn_ok (hl : look P "_law_drawn" = some fDrawn) {many : Int} (h1 : 0 < many) (h2 : many < 2 ^ 64) (hs : St ns s) : ∃ k s', run P W (n + 1) "_law_drawn" [.loc 0, .int many] s = .ok (.val (.int k)) s' ∧ 0 ≤ k ∧ k < many ∧ Dr ns s s' := by
  obtain ⟨pos, mixed, rest, v, h0, hp⟩ := hs
  have hlt := (List.getElem?_eq_some_iff.mp h0).1
  rw [run_eq hl rfl (by decide)]
  have set0 : ∀ en : Ent, (s.set 0 en)[0]? = some en := fun en => List.getElem?_set_self hlt
  by_cases c1 : 0 < rest
  · refine ⟨rest % many, s.set 0 ⟨.lst [.scr ns, .int pos, .int mixed, .int (rest / many)], v + 1⟩, ?_, Int.emod_nonneg _ (by omega), Int.emod_lt_of_pos _ h1, ⟨pos, mixed, rest / many, v + 1, set0 _, hp⟩, _, rfl⟩
    simp [fDrawn, begun, h0, L2.ixN, c1, bin_modI h1, bin_fdivI h1 h2, gc_len]
  · by_cases c2 : pos + 1 ≤ ns.length
    · have hx : (ns.map D.int)[pos.toNat]? = some (.int ns[pos.toNat]) := by
        rw [List.getElem?_map, List.getElem?_eq_getElem (by omega)]
        rfl
      have hx2 : L2.atI (ns.map D.int) pos = some (.int ns[pos.toNat]) := by
        rw [atI_at (k := pos.toNat) (by omega) (by rw [List.length_map]; omega)]
        exact hx
      refine ⟨ns[pos.toNat] % many, s.set 0 ⟨.lst [.scr ns, .int (pos + 1), .int mixed, .int (if ns[pos.toNat] ≥ 10 ^ 18 then ns[pos.toNat] / many else 0)], v + 1 + 1⟩, ?_, Int.emod_nonneg _ (by omega), Int.emod_lt_of_pos _ h1, ⟨pos + 1, mixed, _, v + 1 + 1, set0 _, by omega⟩, _, rfl⟩
      by_cases c3 : (1000000000000000000 : Int) ≤ ns[pos.toNat]
      · simp [fDrawn, begun, h0, L2.ixN, c1, bin_modI h1, bin_fdivI h1 h2, gc_len, c2, c3, hx2, bin_powI, set0]
      · simp [fDrawn, begun, h0, L2.ixN, c1, bin_modI h1, bin_fdivI h1 h2, gc_len, c2, c3, hx2, bin_powI, set0]
    · refine ⟨(mixed * 48271 + 11) % 2147483647 / 7 % many, s.set 0 ⟨.lst [.scr ns, .int (pos + 1), .int ((mixed * 48271 + 11) % 2147483647), .int rest], v + 1 + 1⟩, ?_, Int.emod_nonneg _ (by omega), Int.emod_lt_of_pos _ h1, ⟨pos + 1, _, rest, v + 1 + 1, set0 _, by omega⟩, _, rfl⟩
      simp [fDrawn, begun, h0, L2.ixN, c1, bin_modI, h1, bin_fdivI, h2, gc_len, c2, bin_mulR, set0]
theorem start_loop (hx : Int) : ∀ (l : List Int) (m : Int) (o : Option M) (a : Option M), ∃ m' o', forL [] s (.one 2) (execs (run P W n) W (.cons (.asg (.one 1) (.bin .mod (.bin .add (.bin .add (.bin .mul (.var 1) (.cst (.int 48271))) (.var 2)) (.cst (.int 7))) (.cst (.int 2147483647)))) .nil)) (l.map .int) [a, some (.val (.int m)), o] s = .ok .nx [a, some (.val (.int m')), o'] s
  | [], m, o, a => ⟨m, o, by simp⟩
  | x :: l, m, o, a => by
    obtain ⟨m', o', h⟩ := start_loop hx l ((m * 48271 + x + 7) % 2147483647) (some (.val (.int x))) a
    refine ⟨m', o', ?_⟩
    rw [List.map_cons, forL_cons, ← h]
    simp [bin_mulR, bin_modI]
theorem start_ok (hl : look P "_law_start" = some fStart) : ∃ m, run P W (n + 1) "_law_start" [.scr ns] [] = .ok (.val (.loc 0)) [⟨.lst [.scr ns, .int 0, .int m, .int 0], 0⟩] := by
  rw [run_eq hl rfl (by decide)]
  obtain ⟨m', o', h⟩ := start_loop (P := P) (W := W) (n := n) (s := []) 0 ns 1 none (some (.val (.scr ns)))
  refine ⟨m', ?_⟩
  simp [fStart, begun, itK, wk, items, M.seq?, M.lst?]
  rw [h]
  simp [gc, M.locsLt, D.locsLt]

/-! ### _law_same, of equal things -/
mutual
/-- data of no objects, no greater than may be -/
def D.plain : D → Bool
  | .non => true
  | .bl _ => true
  | .int _ => true
  | .str _ => true
  | .tup xs => decide (xs.length ≤ LIM) && D.plains xs
  | .lst xs => decide (xs.length ≤ LIM) && D.plains xs
  | _ => false
def D.plains : List D → Bool
  | [] => true
  | x :: xs => D.plain x && D.plains xs
end
mutual
def D.tall : D → Nat
  | .tup xs => D.talls xs + 1
  | .lst xs => D.talls xs + 1
  | _ => 0
def D.talls : List D → Nat
  | [] => 0
  | x :: xs => max (D.tall x) (D.talls xs)
end
theorem plains_mem : ∀ {xs : List D} {x : D}, D.plains xs = true → x ∈ xs → x.plain = true ∧ x.tall ≤ D.talls xs
  | y :: xs, x, h, hm => by
    unfold D.plains at h
    rw [Bool.and_eq_true] at h
    unfold D.talls
    cases hm with
    | head => exact ⟨h.1, Nat.le_max_left _ _⟩
    | tail _ hm =>
      obtain ⟨h1, h2⟩ := plains_mem h.2 hm
      exact ⟨h1, Nat.le_trans h2 (Nat.le_max_right _ _)⟩
theorem rng_mem {j : Int} {x : D} (h : x ∈ rng 0 j) : ∃ k : Nat, x = .int k ∧ (k : Int) < j := by
  unfold rng at h
  obtain ⟨k, hk, e⟩ := List.mem_map.mp h
  rw [List.mem_range] at hk
  refine ⟨k, ?_, by omega⟩
  rw [← e, Int.zero_add]
theorem rng_len (i j : Int) : (rng i j).length = (j - i).toNat := by
  unfold rng
  rw [List.length_map, List.length_range]
theorem same_step (hl : look P "_law_same" = some fSame) (n : Nat) (ih : ∀ m, m + 1 = n → ∀ (x : D) (s : Store), x.plain = true → x.tall ≤ m → run P W (m + 1) "_law_same" [x, x] s = .ok (.val (.bl true)) s) (x : D) (s : Store) (hp : x.plain = true) (ht : x.tall ≤ n) : run P W (n + 1) "_law_same" [x, x] s = .ok (.val (.bl true)) s := by
  rw [run_eq hl rfl (by decide)]
  have seq : ∀ (xs : List D) (f : List D → D), x = f xs → (f = D.tup ∨ f = D.lst) → fin s (execs (run P W n) W fSame.body (begun fSame [x, x]) s) = .ok (.val (.bl true)) s := fun xs f hx hf => by
    have hpl : xs.length ≤ LIM ∧ D.plains xs = true ∧ D.talls xs + 1 ≤ n := by
      rcases hf with rfl | rfl
      · subst hx
        unfold D.plain at hp
        rw [Bool.and_eq_true, decide_eq_true_eq] at hp
        exact ⟨hp.1, hp.2, ht⟩
      · subst hx
        unfold D.plain at hp
        rw [Bool.and_eq_true, decide_eq_true_eq] at hp
        exact ⟨hp.1, hp.2, ht⟩
    obtain ⟨p1, p2, p3⟩ := hpl
    have hn : n = n - 1 + 1 := by omega
    have inner : ∀ k : Nat, (k : Int) < xs.length → ∃ y, L2.atI xs k = some y ∧ run P W n "_law_same" [y, y] s = .ok (.val (.bl true)) s := fun k hk => by
      have hk' : k < xs.length := by omega
      refine ⟨xs[k], by rw [atI_at (k := k) rfl hk']; exact List.getElem?_eq_getElem hk', ?_⟩
      obtain ⟨q1, q2⟩ := plains_mem p2 (List.getElem_mem hk')
      have := ih (n - 1) (by omega) xs[k] s q1 (by omega)
      rw [← hn] at this
      exact this
    rcases hf with rfl | rfl
    · subst hx
      simp [fSame, begun, getI_len p1, lcK, wipeOk, rng_len, p1, wipe]
      rw [lc_none (by simp) [] fun x hx => ?_]
      · simp [lcEnd, back, gc_self]
      · obtain ⟨k, rfl, hk⟩ := rng_mem hx
        obtain ⟨y, h1, h2⟩ := inner k hk
        refine ⟨_, [some (.val (.tup xs)), some (.val (.tup xs)), some (.val (.int k))], rfl, ?_, rfl⟩
        simp [h1, h2]
    · subst hx
      simp [fSame, begun, getI_len p1, lcK, wipeOk, rng_len, p1, wipe]
      rw [lc_none (by simp) [] fun x hx => ?_]
      · simp [lcEnd, back, gc_self]
      · obtain ⟨k, rfl, hk⟩ := rng_mem hx
        obtain ⟨y, h1, h2⟩ := inner k hk
        refine ⟨_, [some (.val (.lst xs)), some (.val (.lst xs)), some (.val (.int k))], rfl, ?_, rfl⟩
        simp [h1, h2]
  cases x with
  | tup xs => exact seq xs .tup rfl (.inl rfl)
  | lst xs => exact seq xs .lst rfl (.inr rfl)
  | non => simp [fSame, begun, gc_self]
  | bl b => simp [fSame, begun, gc_self]
  | int b => simp [fSame, begun, gc_self]
  | str b => simp [fSame, begun, gc_self]
  | _ => cases hp
theorem same_refl (hl : look P "_law_same" = some fSame) (n : Nat) : ∀ (x : D) (s : Store), x.plain = true → x.tall ≤ n → run P W (n + 1) "_law_same" [x, x] s = .ok (.val (.bl true)) s := by
  induction n with
  | zero => exact same_step hl 0 fun m hm => by cases hm
  | succ n ih => exact same_step hl (n + 1) fun m hm => by cases hm; exact ih
end
end OI

namespace OI
open PySem PySem.Spec PyProof.Rows L2
/-! ### the program as OI has it -/
-- walked: plan world found k many yes no
def f_walked : Fn := ⟨2, 7, (.cons (.asg (.one 2) (.lst .nil))
  (.cons (.whil (.cmp .ne (.var 0) (.tup .nil)) (.cons (.asg (.many [3, 4, 5, 6]) (.var 0))
  (.cons (.mut1 "append" (.var 2) (.tup (.cons (.var 3) (.cons (.var 4) (.cons (.cmp .ge (.idx (.var 1) (.var 3)) (.var 4)) .nil)))))
  (.cons (.asg (.one 0) (.ife (.cmp .ge (.idx (.var 1) (.var 3)) (.var 4)) (.var 5) (.var 6)))
  .nil))))
  (.cons (.ret (.var 2))
  .nil)))⟩
-- _law_start: _law_script _law_mixed _law_cell
def f__law_start : Fn := ⟨1, 3, (.cons (.asg (.one 1) (.cst (.int 1)))
  (.cons (.fors (.one 2) (.of (.var 0)) (.cons (.asg (.one 1) (.bin .mod (.bin .add (.bin .add (.bin .mul (.var 1) (.cst (.int 48271))) (.var 2)) (.cst (.int 7))) (.cst (.int 2147483647))))
  .nil))
  (.cons (.ret (.share (.lst (.cons (.var 0) (.cons (.cst (.int 0)) (.cons (.var 1) (.cons (.cst (.int 0)) .nil)))))))
  .nil)))⟩
-- _law_drawn: _law_state _law_many _law_found _law_cell
def f__law_drawn : Fn := ⟨2, 4, (.cons (.ifs (.cmp .gt (.idx (.var 0) (.cst (.int 3))) (.cst (.int 0))) (.cons (.asg (.one 2) (.bin .mod (.idx (.var 0) (.cst (.int 3))) (.var 1)))
  (.cons (.setI (.var 0) (.cst (.int 3)) (.bin .fdiv (.idx (.var 0) (.cst (.int 3))) (.var 1)))
  (.cons (.ret (.var 2))
  .nil))) .nil)
  (.cons (.setI (.var 0) (.cst (.int 1)) (.bin .add (.idx (.var 0) (.cst (.int 1))) (.cst (.int 1))))
  (.cons (.ifs (.cmp .le (.idx (.var 0) (.cst (.int 1))) (.bi1 "len" (.idx (.var 0) (.cst (.int 0))))) (.cons (.asg (.one 3) (.idx (.idx (.var 0) (.cst (.int 0))) (.bin .sub (.idx (.var 0) (.cst (.int 1))) (.cst (.int 1)))))
  (.cons (.setI (.var 0) (.cst (.int 3)) (.ife (.cmp .ge (.var 3) (.bin .pow (.cst (.int 10)) (.cst (.int 18)))) (.bin .fdiv (.var 3) (.var 1)) (.cst (.int 0))))
  (.cons (.ret (.bin .mod (.var 3) (.var 1)))
  .nil))) .nil)
  (.cons (.setI (.var 0) (.cst (.int 2)) (.bin .mod (.bin .add (.bin .mul (.idx (.var 0) (.cst (.int 2))) (.cst (.int 48271))) (.cst (.int 11))) (.cst (.int 2147483647))))
  (.cons (.ret (.bin .mod (.bin .fdiv (.idx (.var 0) (.cst (.int 2))) (.cst (.int 7))) (.var 1)))
  .nil)))))⟩
-- _law_same: _law_found _law_due _law_k
def f__law_same : Fn := ⟨2, 3, (.cons (.ifs (.isi (.var 1) false [.tup, .lst]) (.cons (.ifs (.either (.nott (.isi (.var 0) false [.tup, .lst])) (.cmp .ne (.isi (.var 0) true [.lst]) (.isi (.var 1) true [.lst]))) (.cons (.ret (.cst (.bl false)))
  .nil) .nil)
  (.cons (.ifs (.cmp .ne (.bi1 "len" (.var 0)) (.bi1 "len" (.var 1))) (.cons (.ret (.cst (.bl false)))
  .nil) .nil)
  (.cons (.ret (.cmp .eq (.lc (.var 2) (.one 2) (.rng1 (.bi1 "len" (.var 1))) (.yes (.nott (.call "_law_same" (.cons (.idx (.var 0) (.var 2)) (.cons (.idx (.var 1) (.var 2)) .nil))))) [2]) (.lst .nil)))
  .nil))) .nil)
  (.cons (.ifs (.isN false (.var 1)) (.cons (.ret (.isN false (.var 0)))
  .nil) .nil)
  (.cons (.ifs (.isi (.var 1) true [.str]) (.cons (.ret (.both (.isi (.var 0) true [.str]) (.cmp .eq (.var 0) (.var 1))))
  .nil) .nil)
  (.cons (.ifs (.either (.isi (.var 1) true [.bl]) (.isi (.var 0) true [.bl])) (.cons (.ret (.both (.isi (.var 1) true [.bl]) (.both (.isi (.var 0) true [.bl]) (.cmp .eq (.var 0) (.var 1)))))
  .nil) .nil)
  (.cons (.ret (.both (.isi (.var 0) true [.int]) (.cmp .eq (.var 0) (.var 1))))
  .nil)))))⟩
-- _law_plan: _law_state _law_places _law_deep _law_look
def f__law_plan : Fn := ⟨3, 4, (.cons (.ifs (.either (.cmp .eq (.var 2) (.cst (.int 0))) (.cmp .eq (.call "_law_drawn" (.cons (.var 0) (.cons (.cst (.int 5)) .nil))) (.cst (.int 0)))) (.cons (.ret (.tup .nil))
  .nil) .nil)
  (.cons (.asg (.one 3) (.tup (.cons (.call "_law_drawn" (.cons (.var 0) (.cons (.var 1) .nil))) (.cons (.call "_law_drawn" (.cons (.var 0) (.cons (.cst (.int 9)) .nil))) .nil))))
  (.cons (.ret (.bin .add (.var 3) (.tup (.cons (.call "_law_plan" (.cons (.var 0) (.cons (.var 1) (.cons (.bin .sub (.var 2) (.cst (.int 1))) .nil)))) (.cons (.call "_law_plan" (.cons (.var 0) (.cons (.var 1) (.cons (.bin .sub (.var 2) (.cst (.int 1))) .nil)))) .nil)))))
  .nil)))⟩
-- _law_walked: _law_plan_here _law_world _law_answer
def f__law_walked : Fn := ⟨2, 3, (.cons (.ifs (.cmp .eq (.var 0) (.tup .nil)) (.cons (.ret (.lst .nil))
  .nil) .nil)
  (.cons (.asg (.one 2) (.cmp .ge (.idx (.var 1) (.idx (.var 0) (.cst (.int 0)))) (.idx (.var 0) (.cst (.int 1)))))
  (.cons (.ret (.bin .add (.lst (.cons (.tup (.cons (.idx (.var 0) (.cst (.int 0))) (.cons (.idx (.var 0) (.cst (.int 1))) (.cons (.var 2) .nil)))) .nil)) (.call "_law_walked" (.cons (.idx (.lst (.cons (.idx (.var 0) (.cst (.int 3))) (.cons (.idx (.var 0) (.cst (.int 2))) .nil))) (.bi1 "int" (.var 2))) (.cons (.var 1) .nil)))))
  .nil)))⟩
-- law: _law_script _law_state _law_turn _law_places _law_plan_here _law_k _law_world _law_place _law_again _law_found
def f_law : Fn := ⟨1, 10, (.cons (.asg (.one 1) (.call "_law_start" (.cons (.var 0) .nil)))
  (.cons (.fors (.one 2) (.rng1 (.cst (.int 3))) (.cons (.asg (.one 3) (.bin .add (.cst (.int 1)) (.call "_law_drawn" (.cons (.var 1) (.cons (.cst (.int 3)) .nil)))))
  (.cons (.asg (.one 4) (.call "_law_plan" (.cons (.var 1) (.cons (.var 3) (.cons (.call "_law_drawn" (.cons (.var 1) (.cons (.cst (.int 6)) .nil))) .nil)))))
  (.cons (.fors (.one 5) (.rng1 (.cst (.int 6))) (.cons (.asg (.one 6) (.bi1 "tuple" (.lc (.call "_law_drawn" (.cons (.var 1) (.cons (.cst (.int 9)) .nil))) (.one 7) (.rng1 (.var 3)) .no [7])))
  (.cons (.fors (.one 8) (.rng1 (.cst (.int 2))) (.cons (.asg (.one 9) (.call "walked" (.cons (.var 4) (.cons (.var 6) .nil))))
  (.cons (.ifs (.nott (.call "_law_same" (.cons (.var 9) (.cons (.call "_law_walked" (.cons (.var 4) (.cons (.var 6) .nil))) .nil)))) (.cons (.ret (.cst (.bl false)))
  .nil) .nil)
  (.cons (.mut0 "clear" (.var 9))
  .nil))))
  .nil)))
  .nil))))
  (.cons (.ret (.call "_law_same" (.cons (.call "walked" (.cons (.tup .nil) (.cons (.tup (.cons (.cst (.int 1)) .nil)) .nil))) (.cons (.lst .nil) .nil))))
  .nil)))⟩
def prog : Prog := [("walked", f_walked), ("_law_start", f__law_start), ("_law_drawn", f__law_drawn), ("_law_same", f__law_same), ("_law_plan", f__law_plan), ("_law_walked", f__law_walked), ("law", f_law)]
/-! ### what it reckons -/
inductive PlanT where
  | leaf | node (k m : Int) (yes no : PlanT)
def PlanT.d : PlanT → D
  | .leaf => .tup []
  | .node k m y n => .tup [.int k, .int m, y.d, n.d]
def PlanT.ok (w : Int) : PlanT → Prop
  | .leaf => True
  | .node k _ y n => 0 ≤ k ∧ k < w ∧ y.ok w ∧ n.ok w
def PlanT.deep : PlanT → Nat
  | .leaf => 0
  | .node _ _ y n => max y.deep n.deep + 1
def nth (w : List Int) (k : Int) : Int := w.getD k.toNat 0
/-- the answers, one behind the other -/
def walk (w : List Int) : PlanT → List D
  | .leaf => []
  | .node k m y n => .tup [.int k, .int m, .bl (decide (m ≤ nth w k))] :: (if m ≤ nth w k then walk w y else walk w n)
theorem walk_len (w : List Int) : ∀ p : PlanT, (walk w p).length ≤ p.deep
  | .leaf => Nat.le_refl _
  | .node k m y n => by
    have h1 := walk_len w y
    have h2 := walk_len w n
    unfold walk PlanT.deep
    rw [List.length_cons]
    split <;> omega
theorem lay_plan : ∀ p : PlanT, p.d.lay = true
  | .leaf => rfl
  | .node k m y n => by
    have h1 : (toPy y.d).canLay0 = true := lay_plan y
    have h2 : (toPy n.d).canLay0 = true := lay_plan n
    show ((PyData.int k).canLay0 && ((PyData.int m).canLay0 && ((toPy y.d).canLay0 && ((toPy n.d).canLay0 && true)))) = true
    rw [h1, h2]
    rfl
theorem at_world {w : List Int} {k : Int} (h0 : 0 ≤ k) (h1 : k < w.length) : L2.atI (w.map D.int) k = some (.int (nth w k)) := by
  have hk : k.toNat < w.length := by omega
  rw [atI_at (k := k.toNat) (by omega) (by rw [List.length_map]; exact hk), List.getElem?_map, List.getElem?_eq_getElem hk]
  unfold nth
  rw [List.getD_eq_getElem?_getD, List.getElem?_eq_getElem hk]
  rfl
section
variable {W n : Nat} {s : Store} {ns : List Int}
theorem walked_loop {w : List Int} (R : Runs) : ∀ (p : PlanT) (acc : List D) (o3 o4 o5 o6 : Option M) (f : Nat), p.ok w.length → p.deep < f → acc.length + p.deep ≤ 1000 → ∃ o3' o4' o5' o6', whileL (testS (ev R (.cmp .ne (.var 0) (.tup .nil)))) (execs R W (.cons (.asg (.many [3, 4, 5, 6]) (.var 0))
  (.cons (.mut1 "append" (.var 2) (.tup (.cons (.var 3) (.cons (.var 4) (.cons (.cmp .ge (.idx (.var 1) (.var 3)) (.var 4)) .nil)))))
  (.cons (.asg (.one 0) (.ife (.cmp .ge (.idx (.var 1) (.var 3)) (.var 4)) (.var 5) (.var 6)))
  .nil)))) f [some (.val p.d), some (.val (.tup (w.map .int))), some (.ol acc), o3, o4, o5, o6] s = .ok .nx [some (.val PlanT.leaf.d), some (.val (.tup (w.map .int))), some (.ol (acc ++ walk w p)), o3', o4', o5', o6'] s
  | .leaf, acc, o3, o4, o5, o6, 0, _, h, _ => absurd h (Nat.not_lt_zero _)
  | .node _ _ _ _, acc, o3, o4, o5, o6, 0, _, h, _ => absurd h (Nat.not_lt_zero _)
  | .leaf, acc, o3, o4, o5, o6, f + 1, ho, hd, ha => by
    refine ⟨o3, o4, o5, o6, ?_⟩
    rw [whileL_succ]
    simp [PlanT.d, ne_T0 lay_nil, walk]
  | .node k m y z, acc, o3, o4, o5, o6, f + 1, ho, hd, ha => by
    have hl : (D.tup [.int k, .int m, y.d, z.d]).lay = true := lay_plan (.node k m y z)
    obtain ⟨k0, k1, oy, oz⟩ := ho
    have hdy : (PlanT.node k m y z).deep = max y.deep z.deep + 1 := rfl
    have ha2 : acc.length < LIM := by
      have : LIM = 16777216 := rfl
      omega
    by_cases c : m ≤ nth w k
    · obtain ⟨a3, a4, a5, a6, h⟩ := walked_loop R y (acc ++ [.tup [.int k, .int m, .bl true]]) (some (.val (.int k))) (some (.val (.int m))) (some (.val y.d)) (some (.val z.d)) f oy (by omega) (by rw [List.length_append, List.length_singleton]; omega)
      refine ⟨a3, a4, a5, a6, ?_⟩
      rw [whileL_succ]
      simp [PlanT.d, ne_T0 hl, at_world k0 k1, ha2, c, walk] at h ⊢
      exact h
    · obtain ⟨a3, a4, a5, a6, h⟩ := walked_loop R z (acc ++ [.tup [.int k, .int m, .bl false]]) (some (.val (.int k))) (some (.val (.int m))) (some (.val y.d)) (some (.val z.d)) f oz (by omega) (by rw [List.length_append, List.length_singleton]; omega)
      refine ⟨a3, a4, a5, a6, ?_⟩
      rw [whileL_succ]
      simp [PlanT.d, ne_T0 hl, at_world k0 k1, ha2, c, walk] at h ⊢
      exact h
theorem walked_ok {w : List Int} {p : PlanT} (h1 : p.ok w.length) (h2 : p.deep ≤ 100) : run prog 1000000 (n + 1) "walked" [p.d, .tup (w.map .int)] s = .ok (.ol (walk w p)) s := by
  rw [run_eq (show look prog "walked" = some f_walked from rfl) rfl (by decide)]
  obtain ⟨a, b, c, d, h⟩ := walked_loop (W := 1000000) (s := s) (w := w) (run prog 1000000 n) p [] none none none none 1000000 h1 (by omega) (by simp; omega)
  simp [f_walked, begun] at h ⊢
  rw [h]
  simp [gc_self]
theorem lwalked_ok {w : List Int} : ∀ (p : PlanT) (n : Nat), p.ok w.length → p.deep ≤ n → p.deep ≤ 100 → run prog 1000000 (n + 1) "_law_walked" [p.d, .tup (w.map .int)] s = .ok (.ol (walk w p)) s
  | .leaf, n, _, _, _ => by
    rw [run_eq (show look prog "_law_walked" = some f__law_walked from rfl) rfl (by decide)]
    simp [f__law_walked, begun, PlanT.d, eq_T0 lay_nil, walk, gc_self]
  | .node k m y z, 0, _, h, _ => by cases h
  | .node k m y z, n + 1, ho, hd, hn => by
    have hl : (D.tup [.int k, .int m, y.d, z.d]).lay = true := lay_plan (.node k m y z)
    obtain ⟨k0, k1, oy, oz⟩ := ho
    have hdy : (PlanT.node k m y z).deep = max y.deep z.deep + 1 := rfl
    have iy := lwalked_ok y n oy (by omega) (by omega)
    have iz := lwalked_ok z n oz (by omega) (by omega)
    have ly := walk_len w y
    have lz := walk_len w z
    have hlim : ∀ l : Nat, l ≤ 100 → 1 + l ≤ LIM := fun l h => by
      have : LIM = 16777216 := rfl
      omega
    rw [run_eq (show look prog "_law_walked" = some f__law_walked from rfl) rfl (by decide)]
    by_cases c : m ≤ nth w k
    · have := hlim (walk w y).length (by omega)
      simp [f__law_walked, begun, PlanT.d, eq_T0 hl, walk, gc_self, at_world k0 k1, c, iy, bin_addL (lst1_ol _) (lst1_ol _), this]
    · have := hlim (walk w z).length (by omega)
      simp [f__law_walked, begun, PlanT.d, eq_T0 hl, walk, gc_self, at_world k0 k1, c, iz, bin_addL (lst1_ol _) (lst1_ol _), this]
theorem Dr.trans {ns : List Int} {s s1 s2 : Store} (a : Dr ns s s1) (b : Dr ns s1 s2) : Dr ns s s2 := by
  obtain ⟨_, e1, h1⟩ := a
  obtain ⟨t, e2, h2⟩ := b
  exact ⟨t, e2, by rw [h2, h1, List.set_set]⟩
theorem Dr.len {ns : List Int} {s s1 : Store} (a : Dr ns s s1) : s1.length = s.length := by
  obtain ⟨_, e1, h1⟩ := a
  rw [h1, List.length_set]
/-- the drawing went on, or nothing happened -/
def Dq (ns : List Int) (s s' : Store) : Prop := St ns s' ∧ (s' = s ∨ ∃ en, s' = s.set 0 en)
theorem Dr.q {ns : List Int} {s s1 : Store} (a : Dr ns s s1) : Dq ns s s1 := ⟨a.1, .inr a.2⟩
theorem Dq.trans {ns : List Int} {s s1 s2 : Store} (a : Dq ns s s1) (b : Dq ns s1 s2) : Dq ns s s2 := by
  obtain ⟨_, a⟩ := a
  obtain ⟨t, b⟩ := b
  refine ⟨t, ?_⟩
  rcases a with rfl | ⟨e1, rfl⟩
  · exact b
  · rcases b with rfl | ⟨e2, rfl⟩
    · exact .inr ⟨e1, rfl⟩
    · exact .inr ⟨e2, by rw [List.set_set]⟩
theorem Dq.len {ns : List Int} {s s1 : Store} (a : Dq ns s s1) : s1.length = s.length := by
  obtain ⟨_, rfl | ⟨e1, h1⟩⟩ := a
  · rfl
  · rw [h1, List.length_set]
theorem plan_ok {places : Int} (h0 : 0 < places) (h1 : places < 2 ^ 64) : ∀ (d n : Nat) (s : Store), St ns s → d ≤ n → ∃ (p : PlanT) (s' : Store), run prog 1000000 (n + 2) "_law_plan" [.loc 0, .int places, .int d] s = .ok (.val p.d) s' ∧ p.ok places ∧ p.deep ≤ d ∧ Dq ns s s'
  | 0, n, s, hs, _ => by
    refine ⟨.leaf, s, ?_, trivial, Nat.le_refl _, hs, .inl rfl⟩
    rw [run_eq (show look prog "_law_plan" = some f__law_plan from rfl) rfl (by decide)]
    simp [f__law_plan, begun, gc_self, PlanT.d]
  | d + 1, 0, s, hs, h => by cases h
  | d + 1, n + 1, s, hs, h => by
    have hd : ¬ ((d : Int) + 1 = 0) := by omega
    obtain ⟨k1, s1, e1, _, _, d1⟩ := drawn_ok (P := prog) (W := 1000000) (n := n + 1) (s := s) (ns := ns) rfl (many := 5) (by decide) (by decide) hs
    by_cases c : k1 = 0
    · refine ⟨.leaf, s1, ?_, trivial, Nat.zero_le _, d1.q⟩
      subst c
      rw [run_eq (show look prog "_law_plan" = some f__law_plan from rfl) rfl (by decide)]
      simp [f__law_plan, begun, PlanT.d, e1, hd, gc_len (Nat.le_of_eq d1.len)]
    · obtain ⟨k2, s2, e2, a2, b2, d2⟩ := drawn_ok (P := prog) (W := 1000000) (n := n + 1) (s := s1) (ns := ns) rfl (many := places) h0 h1 d1.1
      obtain ⟨k3, s3, e3, a3, b3, d3⟩ := drawn_ok (P := prog) (W := 1000000) (n := n + 1) (s := s2) (ns := ns) rfl (many := 9) (by decide) (by decide) d2.1
      obtain ⟨py, s4, e4, o4, l4, d4⟩ := plan_ok h0 h1 d n s3 d3.1 (by omega)
      obtain ⟨pz, s5, e5, o5, l5, d5⟩ := plan_ok h0 h1 d n s4 d4.1 (by omega)
      have dq : Dq ns s s5 := (((d1.q.trans d2.q).trans d3.q).trans d4).trans d5
      refine ⟨.node k2 k3 py pz, s5, ?_, ⟨a2, b2, o4, o5⟩, ?_, dq⟩
      · rw [run_eq (show look prog "_law_plan" = some f__law_plan from rfl) rfl (by decide)]
        simp [f__law_plan, begun, PlanT.d, e1, c, e2, e3, e4, e5, hd, gc_len (Nat.le_of_eq dq.len), bin_addT (xs := [.int k2, .int k3]) (ys := [py.d, pz.d]) (show 2 + 2 ≤ LIM by decide)]
      · show max py.deep pz.deep + 1 ≤ d + 1
        omega
/-- the places' numbers of a world -/
theorem world_ok {s0 : Store} {a0 o2 o3 o4 o5 o6 o8 o9 : Option M} : ∀ (l : List D) (acc : List Int) (s : Store), St ns s → ∃ (ks : List Int) (s' : Store), ks.length = acc.length + l.length ∧ Dq ns s s' ∧
    lcL [] s0 [7] (.one 7) (evc (run prog 1000000 (n + 1)) .no) (valD (ev (run prog 1000000 (n + 1)) (.call "_law_drawn" (.cons (.var 1) (.cons (.cst (.int 9)) .nil))))) l (acc.map .int) [a0, some (.val (.loc 0)), o2, o3, o4, o5, o6, none, o8, o9] s = .ok (ks.map .int) [a0, some (.val (.loc 0)), o2, o3, o4, o5, o6, none, o8, o9] s'
  | [], acc, s, hs => ⟨acc, s, rfl, ⟨hs, .inl rfl⟩, if_pos (still_nil _ _)⟩
  | x :: l, acc, s, hs => by
    obtain ⟨k1, s1, e1, _, _, d1⟩ := drawn_ok (P := prog) (W := 1000000) (n := n) (s := s) (ns := ns) rfl (many := 9) (by decide) (by decide) hs
    obtain ⟨ks, s2, hk, d2, h2⟩ := world_ok l (acc ++ [k1]) s1 d1.1
    refine ⟨ks, s2, by rw [hk]; simp; omega, d1.q.trans d2, ?_⟩
    unfold lcL
    simp [e1, wipe] at h2 ⊢
    exact h2
theorem walk_plain (w : List Int) : ∀ p : PlanT, D.plains (walk w p) = true ∧ D.talls (walk w p) ≤ 1
  | .leaf => ⟨rfl, Nat.zero_le _⟩
  | .node k m y z => by
    have h1 := walk_plain w y
    have h2 := walk_plain w z
    unfold walk
    have hx : D.plain (.tup [.int k, .int m, .bl (decide (m ≤ nth w k))]) = true := rfl
    have hy : D.tall (.tup [.int k, .int m, .bl (decide (m ≤ nth w k))]) = 1 := rfl
    unfold D.plains D.talls
    rw [hx, hy, Bool.true_and]
    split
    · exact ⟨h1.1, by omega⟩
    · exact ⟨h2.1, by omega⟩
theorem same_walk {w : List Int} {p : PlanT} (h : p.deep ≤ 100) : run prog 1000000 199 "_law_same" [.lst (walk w p), .lst (walk w p)] s = .ok (.val (.bl true)) s := by
  refine same_refl (n := 198) rfl _ _ ?_ ?_
  · unfold D.plain
    rw [(walk_plain w p).1, Bool.and_true]
    have := walk_len w p
    have hL : LIM = 16777216 := rfl
    exact decide_eq_true (by omega)
  · unfold D.tall
    have := (walk_plain w p).2
    omega
theorem again_ok {w : List Int} {p : PlanT} (hp : p.ok w.length) (hd : p.deep ≤ 100) {sz : Store} {a0 a1 o2 o3 o5 : Option M} {o8 o9 : Option M} : ∃ o8' o9' : Option M, forL [] sz (.one 8) (execs (run prog 1000000 199) 1000000 (.cons (.asg (.one 9) (.call "walked" (.cons (.var 4) (.cons (.var 6) .nil))))
  (.cons (.ifs (.nott (.call "_law_same" (.cons (.var 9) (.cons (.call "_law_walked" (.cons (.var 4) (.cons (.var 6) .nil))) .nil)))) (.cons (.ret (.cst (.bl false)))
  .nil) .nil)
  (.cons (.mut0 "clear" (.var 9))
  .nil)))) (rng 0 2) [a0, a1, o2, o3, some (.val p.d), o5, some (.val (.tup (w.map .int))), none, o8, o9] s = .ok .nx [a0, a1, o2, o3, some (.val p.d), o5, some (.val (.tup (w.map .int))), none, o8', o9'] s := by
  have e1 : run prog 1000000 199 "walked" [p.d, .tup (w.map .int)] s = .ok (.ol (walk w p)) s := walked_ok (n := 198) hp hd
  have e2 : run prog 1000000 199 "_law_walked" [p.d, .tup (w.map .int)] s = .ok (.ol (walk w p)) s := by
    exact lwalked_ok p 198 hp (by omega) hd
  have e3 := same_walk (s := s) (w := w) hd
  obtain ⟨e', s', h, hi⟩ := forL_inv (src := []) (s0 := sz) (tg := .one 8) (s := s) (body := execs (run prog 1000000 199) 1000000 (.cons (.asg (.one 9) (.call "walked" (.cons (.var 4) (.cons (.var 6) .nil))))
  (.cons (.ifs (.nott (.call "_law_same" (.cons (.var 9) (.cons (.call "_law_walked" (.cons (.var 4) (.cons (.var 6) .nil))) .nil)))) (.cons (.ret (.cst (.bl false)))
  .nil) .nil)
  (.cons (.mut0 "clear" (.var 9))
  .nil)))) (l := rng 0 2) (e := [a0, a1, o2, o3, some (.val p.d), o5, some (.val (.tup (w.map .int))), none, o8, o9])
    (Inv := fun e s' => s' = s ∧ ∃ o8 o9, e = [a0, a1, o2, o3, some (.val p.d), o5, some (.val (.tup (w.map .int))), none, o8, o9])
    (fun _ _ _ => still_nil _ _) (fun x _ e s' ⟨hs, b8, b9, he⟩ => by
      subst hs he
      refine ⟨_, [a0, a1, o2, o3, some (.val p.d), o5, some (.val (.tup (w.map .int))), none, some (.val x), some (.ol [])], s', rfl, ?_, rfl, _, _, rfl⟩
      simp [e1, e2, e3]) ⟨rfl, o8, o9, rfl⟩
  obtain ⟨rfl, b8, b9, rfl⟩ := hi
  exact ⟨b8, b9, h⟩
theorem six_ok {p : PlanT} {places : Int} (h0 : 0 < places) (h1 : places < 1000) (hp : p.ok places) (hd : p.deep ≤ 100) (hs : St ns s) {sz : Store} {a0 o2 o5 o6 o8 o9 : Option M} : ∃ (b5 b6 b8 b9 : Option M) (s' : Store), Dq ns s s' ∧ forL [] sz (.one 5) (execs (run prog 1000000 199) 1000000 (.cons (.asg (.one 6) (.bi1 "tuple" (.lc (.call "_law_drawn" (.cons (.var 1) (.cons (.cst (.int 9)) .nil))) (.one 7) (.rng1 (.var 3)) .no [7])))
  (.cons (.fors (.one 8) (.rng1 (.cst (.int 2))) (.cons (.asg (.one 9) (.call "walked" (.cons (.var 4) (.cons (.var 6) .nil))))
  (.cons (.ifs (.nott (.call "_law_same" (.cons (.var 9) (.cons (.call "_law_walked" (.cons (.var 4) (.cons (.var 6) .nil))) .nil)))) (.cons (.ret (.cst (.bl false)))
  .nil) .nil)
  (.cons (.mut0 "clear" (.var 9))
  .nil))))
  .nil))) (rng 0 6) [a0, some (.val (.loc 0)), o2, some (.val (.int places)), some (.val p.d), o5, o6, none, o8, o9] s = .ok .nx [a0, some (.val (.loc 0)), o2, some (.val (.int places)), some (.val p.d), b5, b6, none, b8, b9] s' := by
  obtain ⟨e', s', h, hi⟩ := forL_inv (src := []) (s0 := sz) (tg := .one 5) (s := s) (body := execs (run prog 1000000 199) 1000000 (.cons (.asg (.one 6) (.bi1 "tuple" (.lc (.call "_law_drawn" (.cons (.var 1) (.cons (.cst (.int 9)) .nil))) (.one 7) (.rng1 (.var 3)) .no [7])))
  (.cons (.fors (.one 8) (.rng1 (.cst (.int 2))) (.cons (.asg (.one 9) (.call "walked" (.cons (.var 4) (.cons (.var 6) .nil))))
  (.cons (.ifs (.nott (.call "_law_same" (.cons (.var 9) (.cons (.call "_law_walked" (.cons (.var 4) (.cons (.var 6) .nil))) .nil)))) (.cons (.ret (.cst (.bl false)))
  .nil) .nil)
  (.cons (.mut0 "clear" (.var 9))
  .nil))))
  .nil))) (l := rng 0 6) (e := [a0, some (.val (.loc 0)), o2, some (.val (.int places)), some (.val p.d), o5, o6, none, o8, o9])
    (Inv := fun e s' => Dq ns s s' ∧ ∃ b5 b6 b8 b9, e = [a0, some (.val (.loc 0)), o2, some (.val (.int places)), some (.val p.d), b5, b6, none, b8, b9])
    (fun _ _ _ => still_nil _ _) (fun x _ e s' ⟨hq, b5, b6, b8, b9, he⟩ => by
      subst he
      obtain ⟨ks, s2, hk, d2, h2⟩ := world_ok (n := 198) (ns := ns) (s0 := s') (a0 := a0) (o2 := o2) (o3 := some (.val (.int places))) (o4 := some (.val p.d)) (o5 := some (.val x)) (o6 := b6) (o8 := b8) (o9 := b9) (rng 0 places) [] s' hq.1
      have hlen : (ks.length : Int) = places := by
        rw [hk, rng_len]
        simp
        omega
      obtain ⟨c8, c9, h3⟩ := again_ok (s := s2) (w := ks) (p := p) (by rw [hlen]; exact hp) hd (sz := s2) (a0 := a0) (a1 := some (.val (.loc 0))) (o2 := o2) (o3 := some (.val (.int places))) (o5 := some (.val x)) (o8 := b8) (o9 := b9)
      refine ⟨_, [a0, some (.val (.loc 0)), o2, some (.val (.int places)), some (.val p.d), some (.val x), some (.val (.tup (ks.map .int))), none, c8, c9], s2, rfl, ?_, hq.trans d2, _, _, _, _, rfl⟩
      have hr : (rng 0 places).length ≤ LIM := by
        have hL : LIM = 16777216 := rfl
        rw [rng_len]
        omega
      simp [getI_ok' (i := places) (by omega) (by omega), getI_ok' (i := 2) (by decide) (by decide), lcK, wipeOk, hr, wipe] at h2 h3 ⊢
      rw [h2]
      simp [lcEnd, back, h3]) ⟨⟨hs, .inl rfl⟩, o5, o6, o8, o9, rfl⟩
  obtain ⟨hq, b5, b6, b8, b9, rfl⟩ := hi
  exact ⟨b5, b6, b8, b9, s', hq, h⟩
theorem law_ok (ns : List Int) : ∃ s, run prog 1000000 200 "law" [.scr ns] [] = .ok (.val (.bl true)) s := by
  obtain ⟨mx, hst⟩ := start_ok (P := prog) (W := 1000000) (n := 198) (ns := ns) rfl
  have hS : St ns [⟨.lst [.scr ns, .int 0, .int mx, .int 0], 0⟩] := ⟨0, mx, 0, 0, rfl, by decide⟩
  obtain ⟨e', s', h, hi⟩ := forL_inv (src := []) (s0 := [⟨.lst [.scr ns, .int 0, .int mx, .int 0], 0⟩]) (tg := .one 2) (s := [⟨.lst [.scr ns, .int 0, .int mx, .int 0], 0⟩]) (body := execs (run prog 1000000 199) 1000000 (.cons (.asg (.one 3) (.bin .add (.cst (.int 1)) (.call "_law_drawn" (.cons (.var 1) (.cons (.cst (.int 3)) .nil)))))
  (.cons (.asg (.one 4) (.call "_law_plan" (.cons (.var 1) (.cons (.var 3) (.cons (.call "_law_drawn" (.cons (.var 1) (.cons (.cst (.int 6)) .nil))) .nil)))))
  (.cons (.fors (.one 5) (.rng1 (.cst (.int 6))) (.cons (.asg (.one 6) (.bi1 "tuple" (.lc (.call "_law_drawn" (.cons (.var 1) (.cons (.cst (.int 9)) .nil))) (.one 7) (.rng1 (.var 3)) .no [7])))
  (.cons (.fors (.one 8) (.rng1 (.cst (.int 2))) (.cons (.asg (.one 9) (.call "walked" (.cons (.var 4) (.cons (.var 6) .nil))))
  (.cons (.ifs (.nott (.call "_law_same" (.cons (.var 9) (.cons (.call "_law_walked" (.cons (.var 4) (.cons (.var 6) .nil))) .nil)))) (.cons (.ret (.cst (.bl false)))
  .nil) .nil)
  (.cons (.mut0 "clear" (.var 9))
  .nil))))
  .nil)))
  .nil)))) (l := rng 0 3) (e := [some (.val (.scr ns)), some (.val (.loc 0)), none, none, none, none, none, none, none, none])
    (Inv := fun e s' => St ns s' ∧ ∃ b2 b3 b4 b5 b6 b8 b9, e = [some (.val (.scr ns)), some (.val (.loc 0)), b2, b3, b4, b5, b6, none, b8, b9])
    (fun _ _ _ => still_nil _ _) (fun x _ e s' ⟨hq, b2, b3, b4, b5, b6, b8, b9, he⟩ => by
      subst he
      obtain ⟨k1, s1, e1, g1, l1, d1⟩ := drawn_ok (P := prog) (W := 1000000) (n := 198) (s := s') (ns := ns) rfl (many := 3) (by decide) (by decide) hq
      obtain ⟨k2, s2, e2, g2, l2, d2⟩ := drawn_ok (P := prog) (W := 1000000) (n := 198) (s := s1) (ns := ns) rfl (many := 6) (by decide) (by decide) d1.1
      have hk : k2 = (k2.toNat : Int) := by omega
      obtain ⟨p, s3, e3, o3, l3, d3⟩ := plan_ok (ns := ns) (places := 1 + k1) (by omega) (by omega) k2.toNat 197 s2 d2.1 (by omega)
      rw [← hk] at e3
      obtain ⟨c5, c6, c8, c9, s4, d4, h4⟩ := six_ok (ns := ns) (s := s3) (p := p) (places := 1 + k1) (by omega) (by omega) o3 (by omega) d3.1 (sz := s3) (a0 := some (.val (.scr ns))) (o2 := some (.val x)) (o5 := b5) (o6 := b6) (o8 := b8) (o9 := b9)
      refine ⟨_, [some (.val (.scr ns)), some (.val (.loc 0)), some (.val x), some (.val (.int (1 + k1))), some (.val p.d), c5, c6, none, c8, c9], s4, rfl, ?_, d4.1, _, _, _, _, _, _, _, rfl⟩
      simp [e1, e2, e3, getI_ok' (i := 6) (by decide) (by decide), h4]) ⟨hS, _, _, _, _, _, _, _, rfl⟩
  obtain ⟨hS', b2, b3, b4, b5, b6, b8, b9, rfl⟩ := hi
  have w1 : run prog 1000000 199 "walked" [.tup [], .tup [.int 1]] s' = .ok (.ol []) s' := walked_ok (n := 198) (w := [1]) (p := .leaf) trivial (Nat.zero_le _)
  have w2 : run prog 1000000 199 "_law_same" [.lst [], .lst []] s' = .ok (.val (.bl true)) s' := same_refl (n := 198) rfl _ _ rfl (by decide)
  refine ⟨gc [] (.val (.bl true)) s', ?_⟩
  rw [run_eq (show look prog "law" = some f_law from rfl) rfl (by decide)]
  simp [f_law, begun, hst, getI_ok' (i := 3) (by decide) (by decide), h, w1, w2]
end
theorem pure_law : ∀ ns : List Int, ns.length ≤ 63 → (∀ z ∈ ns, Builtin.Int.intBits z ≤ 1048576) → ∃ s, run prog 1000000 200 "law" [.scr ns] [] = .ok (.val (.bl true)) s := fun ns _ _ => law_ok ns
/-! ### its text in the row -/
def topS (i : Nat) : Stmt := PySem.Challenge.pw_numbergaps_k10_plans_walked.main.body.getD i (.Pass ⟨0, 0, 0, 0⟩)
def blts : List String := ["bool", "int", "isinstance", "len", "list", "range", "str", "tuple"]
def fns : List (String × Nat) := [("walked", 2), ("_law_start", 1), ("_law_drawn", 2), ("_law_same", 2), ("_law_plan", 3), ("_law_walked", 2), ("law", 1)]
abbrev st_walked : Stmt := topS 1
def N_walked : List Str := ["plan", "world", "found", "k", "many", "yes", "no"]
theorem sc_walked : FnScope N_walked ["plan", "world"] (defScope st_walked) := ⟨rfl, rfl, rfl, by decide +kernel, rfl, by decide +kernel, by decide +kernel⟩
set_option maxRecDepth 100000 in
theorem ck_walked : chkSs ⟨N_walked, defScope st_walked, fns, blts⟩ f_walked.body (defBody st_walked) = true := by decide +kernel
abbrev st__law_start : Stmt := topS 3
def N__law_start : List Str := ["_law_script", "_law_mixed", "_law_cell"]
theorem sc__law_start : FnScope N__law_start ["_law_script"] (defScope st__law_start) := ⟨rfl, rfl, rfl, by decide +kernel, rfl, by decide +kernel, by decide +kernel⟩
set_option maxRecDepth 100000 in
theorem ck__law_start : chkSs ⟨N__law_start, defScope st__law_start, fns, blts⟩ f__law_start.body (defBody st__law_start) = true := by decide +kernel
abbrev st__law_drawn : Stmt := topS 4
def N__law_drawn : List Str := ["_law_state", "_law_many", "_law_found", "_law_cell"]
theorem sc__law_drawn : FnScope N__law_drawn ["_law_state", "_law_many"] (defScope st__law_drawn) := ⟨rfl, rfl, rfl, by decide +kernel, rfl, by decide +kernel, by decide +kernel⟩
set_option maxRecDepth 100000 in
theorem ck__law_drawn : chkSs ⟨N__law_drawn, defScope st__law_drawn, fns, blts⟩ f__law_drawn.body (defBody st__law_drawn) = true := by decide +kernel
abbrev st__law_same : Stmt := topS 5
def N__law_same : List Str := ["_law_found", "_law_due", "_law_k"]
theorem sc__law_same : FnScope N__law_same ["_law_found", "_law_due"] (defScope st__law_same) := ⟨rfl, rfl, rfl, by decide +kernel, rfl, by decide +kernel, by decide +kernel⟩
set_option maxRecDepth 100000 in
theorem ck__law_same : chkSs ⟨N__law_same, defScope st__law_same, fns, blts⟩ f__law_same.body (defBody st__law_same) = true := by decide +kernel
abbrev st__law_plan : Stmt := topS 6
def N__law_plan : List Str := ["_law_state", "_law_places", "_law_deep", "_law_look"]
theorem sc__law_plan : FnScope N__law_plan ["_law_state", "_law_places", "_law_deep"] (defScope st__law_plan) := ⟨rfl, rfl, rfl, by decide +kernel, rfl, by decide +kernel, by decide +kernel⟩
set_option maxRecDepth 100000 in
theorem ck__law_plan : chkSs ⟨N__law_plan, defScope st__law_plan, fns, blts⟩ f__law_plan.body (defBody st__law_plan) = true := by decide +kernel
abbrev st__law_walked : Stmt := topS 7
def N__law_walked : List Str := ["_law_plan_here", "_law_world", "_law_answer"]
theorem sc__law_walked : FnScope N__law_walked ["_law_plan_here", "_law_world"] (defScope st__law_walked) := ⟨rfl, rfl, rfl, by decide +kernel, rfl, by decide +kernel, by decide +kernel⟩
set_option maxRecDepth 100000 in
theorem ck__law_walked : chkSs ⟨N__law_walked, defScope st__law_walked, fns, blts⟩ f__law_walked.body (defBody st__law_walked) = true := by decide +kernel
abbrev st_law : Stmt := topS 8
def N_law : List Str := ["_law_script", "_law_state", "_law_turn", "_law_places", "_law_plan_here", "_law_k", "_law_world", "_law_place", "_law_again", "_law_found"]
theorem sc_law : FnScope N_law ["_law_script"] (defScope st_law) := ⟨rfl, rfl, rfl, by decide +kernel, rfl, by decide +kernel, by decide +kernel⟩
set_option maxRecDepth 100000 in
theorem ck_law : chkSs ⟨N_law, defScope st_law, fns, blts⟩ f_law.body (defBody st_law) = true := by decide +kernel
def cn (K : PySem.W.Frag) : Cn := { K := K, cls := fun _ => 0, exn := none }
def spLaw (K : PySem.W.Frag) : Sp := spF (cn K) (run prog 1000000 200) "law" 1
theorem all_mk {l : PySem.W.OpenLaw} {w : World} {K : PySem.W.Frag} {h : Heap} {mg : Str → Option Value} {fa f0 f1 f2 f3 f4 f5 f6 : Addr} (X : K.In h) (G : h.Ns mainGlobals mg) (hfa : mg "law" = some (.ref fa))
    {od0 an0 : Option Addr} {sl0 : Array (Option Value)} {oc0 kV0 dc0 pm0 cd0 ct0 : Value}
    (a0 : PySem.W.nsIn K mainGlobals "walked" = some (some (.ref f0))) (l0 : K.lookup f0 = some ⟨oc0, od0, .func (PySem.W.fnOf "walked" "walked" (defArgs st_walked) (defBody st_walked) (defScope st_walked) .none kV0 dc0 pm0 an0 cd0 ct0), sl0⟩) (c0 : PySem.W.codeIn K cd0 "walked" = true) (k0 : PySem.W.keepIn K (.ref f0) = true)
    {od1 an1 : Option Addr} {sl1 : Array (Option Value)} {oc1 kV1 dc1 pm1 cd1 ct1 : Value}
    (a1 : PySem.W.nsIn K mainGlobals "_law_start" = some (some (.ref f1))) (l1 : K.lookup f1 = some ⟨oc1, od1, .func (PySem.W.fnOf "_law_start" "_law_start" (defArgs st__law_start) (defBody st__law_start) (defScope st__law_start) .none kV1 dc1 pm1 an1 cd1 ct1), sl1⟩) (c1 : PySem.W.codeIn K cd1 "_law_start" = true) (k1 : PySem.W.keepIn K (.ref f1) = true)
    {od2 an2 : Option Addr} {sl2 : Array (Option Value)} {oc2 kV2 dc2 pm2 cd2 ct2 : Value}
    (a2 : PySem.W.nsIn K mainGlobals "_law_drawn" = some (some (.ref f2))) (l2 : K.lookup f2 = some ⟨oc2, od2, .func (PySem.W.fnOf "_law_drawn" "_law_drawn" (defArgs st__law_drawn) (defBody st__law_drawn) (defScope st__law_drawn) .none kV2 dc2 pm2 an2 cd2 ct2), sl2⟩) (c2 : PySem.W.codeIn K cd2 "_law_drawn" = true) (k2 : PySem.W.keepIn K (.ref f2) = true)
    {od3 an3 : Option Addr} {sl3 : Array (Option Value)} {oc3 kV3 dc3 pm3 cd3 ct3 : Value}
    (a3 : PySem.W.nsIn K mainGlobals "_law_same" = some (some (.ref f3))) (l3 : K.lookup f3 = some ⟨oc3, od3, .func (PySem.W.fnOf "_law_same" "_law_same" (defArgs st__law_same) (defBody st__law_same) (defScope st__law_same) .none kV3 dc3 pm3 an3 cd3 ct3), sl3⟩) (c3 : PySem.W.codeIn K cd3 "_law_same" = true) (k3 : PySem.W.keepIn K (.ref f3) = true)
    {od4 an4 : Option Addr} {sl4 : Array (Option Value)} {oc4 kV4 dc4 pm4 cd4 ct4 : Value}
    (a4 : PySem.W.nsIn K mainGlobals "_law_plan" = some (some (.ref f4))) (l4 : K.lookup f4 = some ⟨oc4, od4, .func (PySem.W.fnOf "_law_plan" "_law_plan" (defArgs st__law_plan) (defBody st__law_plan) (defScope st__law_plan) .none kV4 dc4 pm4 an4 cd4 ct4), sl4⟩) (c4 : PySem.W.codeIn K cd4 "_law_plan" = true) (k4 : PySem.W.keepIn K (.ref f4) = true)
    {od5 an5 : Option Addr} {sl5 : Array (Option Value)} {oc5 kV5 dc5 pm5 cd5 ct5 : Value}
    (a5 : PySem.W.nsIn K mainGlobals "_law_walked" = some (some (.ref f5))) (l5 : K.lookup f5 = some ⟨oc5, od5, .func (PySem.W.fnOf "_law_walked" "_law_walked" (defArgs st__law_walked) (defBody st__law_walked) (defScope st__law_walked) .none kV5 dc5 pm5 an5 cd5 ct5), sl5⟩) (c5 : PySem.W.codeIn K cd5 "_law_walked" = true) (k5 : PySem.W.keepIn K (.ref f5) = true)
    {od6 an6 : Option Addr} {sl6 : Array (Option Value)} {oc6 kV6 dc6 pm6 cd6 ct6 : Value}
    (a6 : PySem.W.nsIn K mainGlobals "law" = some (some (.ref f6))) (l6 : K.lookup f6 = some ⟨oc6, od6, .func (PySem.W.fnOf "law" "law" (defArgs st_law) (defBody st_law) (defScope st_law) .none kV6 dc6 pm6 an6 cd6 ct6), sl6⟩) (c6 : PySem.W.codeIn K cd6 "law" = true) (k6 : PySem.W.keepIn K (.ref f6) = true)
    (z0 : PySem.W.nsIn K mainGlobals "bool" = some none) (z1 : PySem.W.nsIn K mainGlobals "int" = some none) (z2 : PySem.W.nsIn K mainGlobals "isinstance" = some none) (z3 : PySem.W.nsIn K mainGlobals "len" = some none) (z4 : PySem.W.nsIn K mainGlobals "list" = some none) (z5 : PySem.W.nsIn K mainGlobals "range" = some none) (z6 : PySem.W.nsIn K mainGlobals "str" = some none) (z7 : PySem.W.nsIn K mainGlobals "tuple" = some none) :
    ∃ fd : FuncData, (∀ (s : Shared) (v : Value), BindsTo s fd ⟨[v], []⟩ [("_law_script", v)]) ∧ ∀ base : Heap, K.In base → base.Ns mainGlobals mg → FnOk l.prog w K mg base (L2.CX l.prog w) 200 fa fd ["_law_script"] (spLaw K) := by
  have e : f6 = fa := by
    have e := hfa.symm.trans (PySem.W.mg_of X G a6)
    cases e
    rfl
  subst e
  have F0 := fun_mk (st := st_walked) l0 c0 k0
  have b0 := F0.binds (ps := ["plan", "world"]) fun _ _ _ _ _ _ us hl => match us, hl with | [_, _], _ => rfl
  have F1 := fun_mk (st := st__law_start) l1 c1 k1
  have b1 := F1.binds (ps := ["_law_script"]) fun _ _ _ _ _ _ us hl => match us, hl with | [_], _ => rfl
  have F2 := fun_mk (st := st__law_drawn) l2 c2 k2
  have b2 := F2.binds (ps := ["_law_state", "_law_many"]) fun _ _ _ _ _ _ us hl => match us, hl with | [_, _], _ => rfl
  have F3 := fun_mk (st := st__law_same) l3 c3 k3
  have b3 := F3.binds (ps := ["_law_found", "_law_due"]) fun _ _ _ _ _ _ us hl => match us, hl with | [_, _], _ => rfl
  have F4 := fun_mk (st := st__law_plan) l4 c4 k4
  have b4 := F4.binds (ps := ["_law_state", "_law_places", "_law_deep"]) fun _ _ _ _ _ _ us hl => match us, hl with | [_, _, _], _ => rfl
  have F5 := fun_mk (st := st__law_walked) l5 c5 k5
  have b5 := F5.binds (ps := ["_law_plan_here", "_law_world"]) fun _ _ _ _ _ _ us hl => match us, hl with | [_, _], _ => rfl
  have F6 := fun_mk (st := st_law) l6 c6 k6
  have b6 := F6.binds (ps := ["_law_script"]) fun _ _ _ _ _ _ us hl => match us, hl with | [_], _ => rfl
  have hb : ∀ x ∈ blts, mg (Str.ofString x) = none := by
    intro x hx
    unfold blts at hx
    simp only [List.mem_cons, List.not_mem_nil, or_false] at hx
    rcases hx with rfl | rfl | rfl | rfl | rfl | rfl | rfl | rfl
    · exact PySem.W.mg_none_of X G z0
    · exact PySem.W.mg_none_of X G z1
    · exact PySem.W.mg_none_of X G z2
    · exact PySem.W.mg_none_of X G z3
    · exact PySem.W.mg_none_of X G z4
    · exact PySem.W.mg_none_of X G z5
    · exact PySem.W.mg_none_of X G z6
    · exact PySem.W.mg_none_of X G z7
  have hT : ∀ e ∈ ([⟨"walked", "walked", ["plan", "world"], N_walked, st_walked, f0, PySem.W.fnOf "walked" "walked" (defArgs st_walked) (defBody st_walked) (defScope st_walked) .none kV0 dc0 pm0 an0 cd0 ct0, f_walked⟩,
    ⟨"_law_start", "_law_start", ["_law_script"], N__law_start, st__law_start, f1, PySem.W.fnOf "_law_start" "_law_start" (defArgs st__law_start) (defBody st__law_start) (defScope st__law_start) .none kV1 dc1 pm1 an1 cd1 ct1, f__law_start⟩,
    ⟨"_law_drawn", "_law_drawn", ["_law_state", "_law_many"], N__law_drawn, st__law_drawn, f2, PySem.W.fnOf "_law_drawn" "_law_drawn" (defArgs st__law_drawn) (defBody st__law_drawn) (defScope st__law_drawn) .none kV2 dc2 pm2 an2 cd2 ct2, f__law_drawn⟩,
    ⟨"_law_same", "_law_same", ["_law_found", "_law_due"], N__law_same, st__law_same, f3, PySem.W.fnOf "_law_same" "_law_same" (defArgs st__law_same) (defBody st__law_same) (defScope st__law_same) .none kV3 dc3 pm3 an3 cd3 ct3, f__law_same⟩,
    ⟨"_law_plan", "_law_plan", ["_law_state", "_law_places", "_law_deep"], N__law_plan, st__law_plan, f4, PySem.W.fnOf "_law_plan" "_law_plan" (defArgs st__law_plan) (defBody st__law_plan) (defScope st__law_plan) .none kV4 dc4 pm4 an4 cd4 ct4, f__law_plan⟩,
    ⟨"_law_walked", "_law_walked", ["_law_plan_here", "_law_world"], N__law_walked, st__law_walked, f5, PySem.W.fnOf "_law_walked" "_law_walked" (defArgs st__law_walked) (defBody st__law_walked) (defScope st__law_walked) .none kV5 dc5 pm5 an5 cd5 ct5, f__law_walked⟩,
    ⟨"law", "law", ["_law_script"], N_law, st_law, f6, PySem.W.fnOf "law" "law" (defArgs st_law) (defBody st_law) (defScope st_law) .none kV6 dc6 pm6 an6 cd6 ct6, f_law⟩] : List Entry), EntOk K mg prog fns blts e := by
    refine List.forall_mem_cons.mpr ⟨⟨F0, sc_walked, b0, PySem.W.mg_of X G a0, rfl, rfl, rfl, ck_walked⟩, List.forall_mem_cons.mpr ⟨⟨F1, sc__law_start, b1, PySem.W.mg_of X G a1, rfl, rfl, rfl, ck__law_start⟩, List.forall_mem_cons.mpr ⟨⟨F2, sc__law_drawn, b2, PySem.W.mg_of X G a2, rfl, rfl, rfl, ck__law_drawn⟩, List.forall_mem_cons.mpr ⟨⟨F3, sc__law_same, b3, PySem.W.mg_of X G a3, rfl, rfl, rfl, ck__law_same⟩, List.forall_mem_cons.mpr ⟨⟨F4, sc__law_plan, b4, PySem.W.mg_of X G a4, rfl, rfl, rfl, ck__law_plan⟩, List.forall_mem_cons.mpr ⟨⟨F5, sc__law_walked, b5, PySem.W.mg_of X G a5, rfl, rfl, rfl, ck__law_walked⟩, List.forall_mem_cons.mpr ⟨⟨F6, sc_law, b6, PySem.W.mg_of X G a6, rfl, rfl, rfl, ck_law⟩, fun _ hm => nomatch hm⟩⟩⟩⟩⟩⟩⟩
  exact ⟨PySem.W.fnOf "law" "law" (defArgs st_law) (defBody st_law) (defScope st_law) .none kV6 dc6 pm6 an6 cd6 ct6, fun s v => .of_eq rfl, fun base _ _ => all_ok (c := cn K) rfl hb hT 200 _ (.tail _ (.tail _ (.tail _ (.tail _ (.tail _ (.tail _ (.head _)))))))⟩
end OI
open PySem PySem.W PyProof.Rows
set_option maxHeartbeats 0 in
theorem PySem.Challenge.cw_numbergaps_k10_plans_walked_holds : PySem.Challenge.rw_numbergaps_k10_plans_walked.Holds := by
  w_on; o_law; k_head; (case hw => w_witness2)
  k_fill
  refine L2.walk_ofB (l := PySem.Challenge.rw_numbergaps_k10_plans_walked) (n := 63) (k := 200) (x := "_law_script") (CX := fun w => L2.CX PySem.Challenge.pw_numbergaps_k10_plans_walked w) (sp := fun w => OI.spLaw _) rfl (by decide) rfl ⟨rfl, by decide, by decide⟩ (fun w h Y => PySem.W.kIn_of Y) ?F (fun _ H a ns h1 h2 h3 h4 => OI.law_sp rfl OI.pure_law H a ns h1 h2 h3 h4) (fun w H s e s' hx => by obtain ⟨_, _, _, _, _, _, _, _, _, _, _, _, z⟩ := hx; exact z)
  case F =>
    intro w mg fa h KX G hmg
    refine' OI.all_mk (l := PySem.Challenge.rw_numbergaps_k10_plans_walked) KX G hmg ?a0 ?l0 ?c0 ?k0 ?a1 ?l1 ?c1 ?k1 ?a2 ?l2 ?c2 ?k2 ?a3 ?l3 ?c3 ?k3 ?a4 ?l4 ?c4 ?k4 ?a5 ?l5 ?c5 ?k5 ?a6 ?l6 ?c6 ?k6 ?z0 ?z1 ?z2 ?z3 ?z4 ?z5 ?z6 ?z7
    (case a0 => k_is); (case l0 => k_is); (case c0 => k_is); (case k0 => k_is); (case a1 => k_is); (case l1 => k_is); (case c1 => k_is); (case k1 => k_is); (case a2 => k_is); (case l2 => k_is); (case c2 => k_is); (case k2 => k_is); (case a3 => k_is); (case l3 => k_is); (case c3 => k_is); (case k3 => k_is); (case a4 => k_is); (case l4 => k_is); (case c4 => k_is); (case k4 => k_is); (case a5 => k_is); (case l5 => k_is); (case c5 => k_is); (case k5 => k_is); (case a6 => k_is); (case l6 => k_is); (case c6 => k_is); (case k6 => k_is); (case z0 => k_is); (case z1 => k_is); (case z2 => k_is); (case z3 => k_is); (case z4 => k_is); (case z5 => k_is); (case z6 => k_is); (case z7 => k_is)
