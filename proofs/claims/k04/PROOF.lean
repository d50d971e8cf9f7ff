import PyProof.Rows.All
import Wide.All
import OpenK.AllK
import Wide.FinOn
import HandS.ForMost
import HandS.ForExc
import HandS.Small
import HandS.WordsExc
import HandS.TupMul
import PyProof.Lay0
import HandS.Wide
import HandS.TupAny
import HandS.SortInts
import HandS.Style
import HandS.Deep
import HandS.IsInst
import HandS.Text
import HandS.Dict
import HandS.SortKw
import KE.KMinKey
import HandS.TryMany
import HandS.ExcIs
import HandS.Conv
import HandS.Zip
import HandS.EndBits
import PySem.Challenge.RW_numbergaps_k04_states_and_gaps
set_option linter.all false
set_option autoImplicit false
set_option Elab.async false
/-! OIa: the ownership interpreter: values, store, my own syntax, its run. Plain Lean; nothing of the machine. -/
namespace OI
open PySem (Str PyData)

/-- data by value: frozen lists and dicts among them; loc: a shared object of the store -/
inductive D where
  | non | bl (b : Bool) | int (i : Int) | str (x : Str)
  | tup (xs : List D) | lst (xs : List D) | dic (t : Bool) (kvs : List (D × D))
  | scr (ns : List Int) | loc (n : Nat) | exn (c : String) | lam (f : String) (cap : List D)
  deriving Inhabited

mutual
def D.beq : D → D → Bool
  | .non, .non => true
  | .bl a, .bl b => a == b
  | .int a, .int b => a == b
  | .str a, .str b => a == b
  | .tup a, .tup b => D.beqs a b
  | .lst a, .lst b => D.beqs a b
  | .dic t a, .dic u b => t == u && D.beqk a b
  | .scr a, .scr b => a == b
  | .loc a, .loc b => a == b
  | .exn a, .exn b => a == b
  | .lam a c, .lam b d => a == b && D.beqs c d
  | _, _ => false
def D.beqs : List D → List D → Bool
  | [], [] => true
  | x :: xs, y :: ys => D.beq x y && D.beqs xs ys
  | _, _ => false
def D.beqk : List (D × D) → List (D × D) → Bool
  | [], [] => true
  | (a, b) :: xs, (c, d) :: ys => D.beq a c && D.beq b d && D.beqk xs ys
  | _, _ => false
end
mutual
theorem D.beq_iff : ∀ a b : D, D.beq a b = true ↔ a = b
  | .non, b => by cases b <;> simp [D.beq]
  | .bl _, b => by cases b <;> simp [D.beq]
  | .int _, b => by cases b <;> simp [D.beq]
  | .str _, b => by cases b <;> simp [D.beq]
  | .tup xs, b => by
    cases b <;> simp [D.beq]
    exact D.beqs_iff xs _
  | .lst xs, b => by
    cases b <;> simp [D.beq]
    exact D.beqs_iff xs _
  | .dic t xs, b => by
    cases b <;> simp [D.beq]
    intro _
    exact D.beqk_iff xs _
  | .scr _, b => by cases b <;> simp [D.beq]
  | .loc _, b => by cases b <;> simp [D.beq]
  | .exn _, b => by cases b <;> simp [D.beq]
  | .lam _ xs, b => by
    cases b <;> simp [D.beq]
    intro _
    exact D.beqs_iff xs _
theorem D.beqs_iff : ∀ a b : List D, D.beqs a b = true ↔ a = b
  | [], b => by cases b <;> simp [D.beqs]
  | x :: xs, b => by
    cases b with
    | nil => simp [D.beqs]
    | cons y ys => simp [D.beqs, D.beq_iff x y, D.beqs_iff xs ys]
theorem D.beqk_iff : ∀ a b : List (D × D), D.beqk a b = true ↔ a = b
  | [], b => by cases b <;> simp [D.beqk]
  | (x, y) :: xs, b => by
    cases b with
    | nil => simp [D.beqk]
    | cons z zs =>
      obtain ⟨u, v⟩ := z
      simp [D.beqk, D.beq_iff x u, D.beq_iff y v, D.beqk_iff xs zs]
end
instance : DecidableEq D := fun a b => if h : D.beq a b = true then .isTrue ((D.beq_iff a b).1 h) else .isFalse fun e => h ((D.beq_iff a b).2 e)

/-- what a slot, a field or a result holds: data, or a container of its own -/
inductive M where
  | val (d : D) | ol (xs : List D) | od (t : Bool) (kvs : List (D × D))
  deriving DecidableEq, Inhabited
def M.frz : M → D
  | .val d => d
  | .ol xs => .lst xs
  | .od t kvs => .dic t kvs
def M.isVal : M → Bool
  | .val _ => true
  | _ => false
inductive SObj where
  | ins (c : String) (fs : List (String × M)) | lst (xs : List D) | dic (t : Bool) (kvs : List (D × D))
  deriving DecidableEq, Inhabited
structure Ent where
  o : SObj
  v : Nat
  deriving DecidableEq, Inhabited
abbrev Store := List Ent
abbrev Env := List (Option M)
/-- whose a container is -/
inductive Pl where
  | slot (i : Nat) | fld (n : Nat) (f : String) | obj (n : Nat) | tmp | oth
  deriving DecidableEq, Inhabited
/-- where a walk's source stands, if it may change: an object of the store, a slot -/
inductive Src where
  | ent (n : Nat) | slot (i : Nat)
  deriving DecidableEq, Inhabited
def Pl.walk : Pl → List Src
  | .fld n _ => [.ent n]
  | .obj n => [.ent n]
  | .slot i => [.slot i]
  | _ => []
def Pl.src : Pl → Option Nat
  | .fld n _ => some n
  | .obj n => some n
  | _ => none

inductive Res (α : Type) where
  | ok (a : α) (e : Env) (s : Store)
  | err (c : String) (e : Env) (s : Store)
  | bad
  deriving Inhabited
def Res.bind {α β : Type} (r : Res α) (f : α → Env → Store → Res β) : Res β :=
  match r with
  | .ok a e s => f a e s
  | .err c e s => .err c e s
  | .bad => .bad
inductive RR where
  | ok (m : M) (s : Store)
  | err (c : String) (s : Store)
  | bad
  deriving Inhabited
abbrev Runs := String → List D → Store → RR

/-! ### the syntax -/
inductive BOp where
  | add | sub | mul | fdiv | mod | pow
  deriving DecidableEq, Inhabited
inductive COp where
  | eq | ne | lt | le | gt | ge | isin | nin
  deriving DecidableEq, Inhabited
inductive Ty where
  | tup | lst | str | bl | int | own (c : String) | valueError
  deriving DecidableEq, Inhabited
/-- a target: a name, or names of a tuple -/
inductive Tg where
  | one (i : Nat) | many (is : List Nat)
  deriving DecidableEq, Inhabited
mutual
inductive IE where
  | var (i : Nat)
  | cst (d : D)
  | glob (x : String) (d : D)
  | bin (op : BOp) (a b : IE)
  | neg (a : IE)
  | cmp (op : COp) (a b : IE)
  | chain (op op2 : COp) (a b c : IE)
  | isN (neg : Bool) (a : IE)
  | isB (neg : Bool) (a : IE) (b : Bool)
  | both (a b : IE)
  | either (a b : IE)
  | nott (a : IE)
  | ife (c a b : IE)
  | tup (es : IEs)
  | lst (es : IEs)
  | dct (t : Bool) (ps : IPs)
  | idx (a b : IE)
  | slc (a : IE) (lo hi : IO)
  | attr (a : IE) (f : String)
  | call (f : String) (es : IEs)
  | new (c : String) (es : IEs)
  | meth (o : IE) (c m : String) (es : IEs)
  | bi1 (f : String) (a : IE)
  | bi2 (f : String) (a b : IE)
  | bi3 (f : String) (a b c : IE)
  | bm1 (m : String) (o a : IE)
  | bm2 (m : String) (o a b : IE)
  | isi (a : IE) (one : Bool) (ts : List Ty)
  | lrange (a b : IE)
  | lc (elt : IE) (tg : Tg) (it : It) (c : IO) (own : List Nat)
  | share (a : IE)
  | lam (f : String) (caps : IEs)
  | app (a : IE)
  | chain3 (op op2 op3 : COp) (a b c d : IE)
  | bad
inductive IEs where
  | nil
  | cons (a : IE) (r : IEs)
inductive IPs where
  | nil
  | cons (k v : IE) (r : IPs)
inductive IO where
  | no
  | yes (a : IE)
inductive It where
  | of (e : IE)
  | rng1 (a : IE)
  | rng2 (a b : IE)
  | rng3 (a b c : IE)
  | zip (a b : IE)
end
mutual
inductive IS where
  | asg (t : Tg) (e : IE)
  | pop (t : Nat) (o : IE)
  | setA (o : IE) (f : String) (e : IE)
  | setI (o i e : IE)
  | ret (e : IE)
  | ifs (c : IE) (a b : ISs)
  | expr (e : IE)
  | mut0 (m : String) (o : IE)
  | mut1 (m : String) (o a : IE)
  | fors (tg : Tg) (it : It) (b : ISs)
  | whil (c : IE) (b : ISs)
  | rais (c : String)
  | tryA (b : ISs) (ks : List String) (c : String) (i : Nat) (h : ISs)
  | tryM (b : ISs) (ks : List String) (hs : IHs)
  | pass
  | bad
inductive ISs where
  | nil
  | cons (a : IS) (r : ISs)
inductive IHs where
  | nil
  | cons (c : String) (b : ISs) (r : IHs)
end
structure Fn where
  np : Nat
  ns : Nat
  body : ISs
abbrev Prog := List (String × Fn)

/-! ### plain operations -/
def LIM : Nat := 16777216
mutual
def toPy : D → PyData
  | .non => .none
  | .bl b => .bool b
  | .int i => .int i
  | .str x => .str x
  | .tup xs => .tuple (toPys xs)
  | .lst xs => .list (toPys xs)
  | .scr ns => .list (ns.map .int)
  | .dic _ _ => .dict []
  | .loc _ => .dict []
  | .exn _ => .dict []
  | .lam _ _ => .dict []
def toPys : List D → List PyData
  | [] => []
  | x :: xs => toPy x :: toPys xs
end
def D.lay (d : D) : Bool := (toPy d).canLay0
def D.deep (d : D) : Nat := (toPy d).depth
def eqv (d e : D) : Bool := PyData.eqv (toPy d) (toPy e)
def cmpOk (d e : D) : Bool := d.lay && e.lay && decide (min d.deep e.deep ≤ 64)

/-- the items of a list (frozen, own, the script) -/
def M.lst? : M → Option (List D)
  | .val (.lst xs) => some xs
  | .val (.scr ns) => some (ns.map .int)
  | .ol xs => some xs
  | _ => none
/-- .. without the script -/
def M.lst1? : M → Option (List D)
  | .val (.lst xs) => some xs
  | .ol xs => some xs
  | _ => none
def M.dic? : M → Option (Bool × List (D × D))
  | .val (.dic t kvs) => some (t, kvs)
  | .od t kvs => some (t, kvs)
  | _ => none
/-- list or tuple -/
def M.seq? : M → Option (List D)
  | .val (.tup xs) => some xs
  | m => m.lst?

/-- keys of a dict of kind false: ints and texts; of kind true: tuples (nested) of ints -/
def D.flatKey : D → Bool
  | .int _ => true
  | .str _ => true
  | _ => false
mutual
def D.tupKey : D → Bool
  | .tup xs => D.tupKeys xs
  | _ => false
def D.tupKeys : List D → Bool
  | [] => true
  | .int _ :: r => D.tupKeys r
  | .tup xs :: r => D.tupKeys xs && D.tupKeys r
  | _ :: _ => false
end
mutual
def D.kdeep : D → Nat
  | .tup xs => D.kdeeps xs + 1
  | _ => 0
def D.kdeeps : List D → Nat
  | [] => 0
  | x :: r => max (D.kdeep x) (D.kdeeps r)
end
def keyOk (t : Bool) (k : D) : Bool := if t then k.tupKey && decide (k.kdeep ≤ 4) else k.flatKey
def dget (kvs : List (D × D)) (k : D) : Option D := (kvs.find? fun p => decide (p.1 = k)).map (·.2)
def dput (kvs : List (D × D)) (k v : D) : List (D × D) :=
  if (kvs.any fun p => decide (p.1 = k)) = true then kvs.map (fun p => if p.1 = k then (p.1, v) else p) else kvs ++ [(k, v)]
def dmerge (kvs more : List (D × D)) : List (D × D) := more.foldl (fun acc p => dput acc p.1 p.2) kvs

def strAt (x : Str) (i : Int) : Option D := (L2.atI x.cps.toList i).map fun c => .str ⟨#[c]⟩
def signs (x : Str) : List D := x.cps.toList.map fun c => .str ⟨#[c]⟩
def cutD (xs : List D) (lo hi : Option Int) : List D := (xs.drop (HT.sIx xs.length 0 lo)).take (HT.sIx xs.length xs.length hi - HT.sIx xs.length 0 lo)

def addM (a b : M) : Option M :=
  match a, b with
  | .val (.int i), .val (.int j) => some (.val (.int (i + j)))
  | .val (.str x), .val (.str y) => if x.length + y.length ≤ LIM then some (.val (.str (x ++ y))) else none
  | .val (.tup xs), .val (.tup ys) => if xs.length + ys.length ≤ LIM then some (.val (.tup (xs ++ ys))) else none
  | a, b => match a.lst1?, b.lst1? with
    | some xs, some ys => if xs.length + ys.length ≤ LIM then some (.ol (xs ++ ys)) else none
    | _, _ => none
def mulM (a b : M) : Option M :=
  match a, b with
  | .val (.int i), .val (.int j) => if (-(2 ^ 64) < i ∧ i < 2 ^ 64) ∨ (-(2 ^ 64) < j ∧ j < 2 ^ 64) then some (.val (.int (i * j))) else none
  | .val (.tup xs), .val (.int k) => if 2 ≤ k ∧ k ≤ 1000 ∧ 0 < xs.length ∧ xs.length ≤ 1000 then some (.val (.tup (List.replicate k.toNat xs).flatten)) else none
  | a, .val (.int k) => match a.lst1? with
    | some xs => if 0 ≤ k ∧ k < 2 ^ 62 ∧ xs.length * k.toNat ≤ LIM then some (.ol (List.replicate k.toNat xs).flatten) else none
    | _ => none
  | _, _ => none
def intM (f : Int → Int → Option Int) (a b : M) : Option M :=
  match a, b with
  | .val (.int i), .val (.int j) => (f i j).map fun k => .val (.int k)
  | _, _ => none
def bin (op : BOp) : M → M → Option M :=
  match op with
  | .add => addM
  | .mul => mulM
  | .sub => intM fun i j => some (i - j)
  | .fdiv => intM fun i j => if 0 < j ∧ j.natAbs.log2 < 9000 then some (i / j) else none
  | .mod => intM fun i j => if 0 < j then some (i % j) else none
  | .pow => intM fun i j => if 0 ≤ j ∧ j ≤ 1000000 ∧ i.natAbs < 2 ^ 64 then some (i ^ j.toNat) else none

def cmpI (op : COp) (i j : Int) : Option Bool :=
  match op with
  | .lt => some (decide (i < j))
  | .le => some (decide (i ≤ j))
  | .gt => some (decide (j < i))
  | .ge => some (decide (j ≤ i))
  | _ => none
def D.flat : D → Bool
  | .non => true
  | .bl _ => true
  | .int _ => true
  | .str _ => true
  | _ => false
def isIn (a b : M) : Option Bool :=
  match a with
  | .val d => match b with
    | .val (.str y) => match d with
      | .str x => if x.length = 1 then some (decide (x.cps.getD 0 0 ∈ y.cps.toList)) else none
      | _ => none
    | b => match b.dic? with
      | some (t, kvs) => if keyOk t d then some (dget kvs d).isSome else none
      | none => match b.seq? with
        | some ys => if d.flat && ys.all D.flat then some (ys.any fun y => eqv y d)
          else if b.lst?.isSome && d.lay && (D.lst ys).lay && decide (d.deep ≤ 60) then some (ys.any fun y => eqv y d) else none
        | none => none
  | _ => none
def eqB (d e : D) : Option Bool :=
  match d, e with
  | .str x, .str y => some (decide (x = y))
  | _, _ => if cmpOk d e then some (eqv d e) else none
def cmp (op : COp) (a b : M) : Option Bool :=
  match op with
  | .eq => eqB a.frz b.frz
  | .ne => (eqB a.frz b.frz).map fun c => !c
  | .isin => isIn a b
  | .nin => (isIn a b).map fun c => !c
  | _ => match a, b with
    | .val (.int i), .val (.int j) => cmpI op i j
    | _, _ => none

def index (a b : M) : Option D :=
  match a, b with
  | .val (.str x), .val (.int i) => if x.length ≤ LIM then strAt x i else none
  | a, .val k => match a.seq? with
    | some xs => match k with
      | .int i => L2.atI xs i
      | _ => none
    | none => match a.dic? with
      | some (t, kvs) => if keyOk t k then dget kvs k else none
      | none => none
  | _, _ => none
def slice (a : M) (lo hi : Option Int) : Option M :=
  match a with
  | .val (.str x) => if x.length ≤ LIM then some (.val (.str (L2.cutS x lo hi))) else none
  | .val (.tup xs) => some (.val (.tup (cutD xs lo hi)))
  | a => match a.lst1? with
    | some xs => some (.ol (cutD xs lo hi))
    | none => none

def ints? : List D → Option (List Int)
  | [] => some []
  | .int i :: r => (ints? r).map (i :: ·)
  | _ :: _ => none
def strs? : List D → Option (List Str)
  | [] => some []
  | .str i :: r => (strs? r).map (i :: ·)
  | _ :: _ => none
def maxI : List Int → Int
  | [] => 0
  | [a] => a
  | a :: r => max a (maxI r)
def minI : List Int → Int
  | [] => 0
  | [a] => a
  | a :: r => min a (minI r)
def insI (a : Int) : List Int → List Int
  | [] => [a]
  | b :: r => if a ≤ b then a :: b :: r else b :: insI a r
def sortI : List Int → List Int
  | [] => []
  | a :: r => insI a (sortI r)

def bi1 (f : String) (a : M) : Option M :=
  match f with
  | "len" => match a with
    | .val (.str x) => if x.length ≤ LIM then some (.val (.int x.length)) else none
    | a => match a.seq? with
      | some xs => some (.val (.int xs.length))
      | none => none
  | "sum" => match a.seq?.bind ints? with
    | some ns => some (.val (.int ns.sum))
    | none => none
  | "max" => match a.lst?.bind ints? with
    | some (n :: ns) => some (.val (.int (maxI (n :: ns))))
    | _ => none
  | "min" => match a.lst?.bind ints? with
    | some (n :: ns) => some (.val (.int (minI (n :: ns))))
    | _ => none
  | "sorted" => match a.lst?.bind ints? with
    | some ns => some (.ol ((sortI ns).map .int))
    | none => none
  | "list" => match a.seq? with
    | some xs => some (.ol xs)
    | none => none
  | "tuple" => match a.seq? with
    | some xs => some (.val (.tup xs))
    | none => none
  | "dict" => match a.dic? with
    | some (false, kvs) => some (.od false kvs)
    | _ => none
  | "int" => match a with
    | .val (.int i) => some (.val (.int i))
    | .val (.bl b) => some (.val (.int (if b then 1 else 0)))
    | .val (.str x) => if x.length ≤ 640 then (PySem.intText? x).map fun i => .val (.int i) else none
    | _ => none
  | "str" => match a with
    | .val (.int i) => if i.natAbs.log2 < 1920 then some (.val (.str (toString i))) else none
    | _ => none
  | "lenset" => match a.lst?.bind ints? with
    | some ns => if ns.length ≤ 4000 ∧ ns.Nodup then some (.val (.int ns.length)) else none
    | none => none
  | _ => none
def bi2 (f : String) (a b : M) : Option M :=
  match f with
  | "max" => match a, b with
    | .val (.int i), .val (.int j) => some (.val (.int (max i j)))
    | _, _ => none
  | "min" => match a, b with
    | .val (.int i), .val (.int j) => some (.val (.int (min i j)))
    | _, _ => none
  | "maxd" => match a.lst?.bind ints?, b with
    | some [], .val (.int j) => some (.val (.int j))
    | some (n :: ns), .val (.int _) => some (.val (.int (maxI (n :: ns))))
    | _, _ => none
  | _ => none
def bi3 (f : String) (a b c : M) : Option M :=
  match f with
  | "max" => match a, b, c with
    | .val (.int i), .val (.int j), .val (.int k) => some (.val (.int (max (max i j) k)))
    | _, _, _ => none
  | "lzip" => match a.seq?, b.seq?, c.seq? with
    | some xs, some ys, some zs => some (.ol ((xs.zip (ys.zip zs)).map fun p => .tup [p.1, p.2.1, p.2.2]))
    | _, _, _ => none
  | _ => none
def findIx (d : D) : List D → Nat → Option Nat
  | [], _ => none
  | y :: r, i => if eqv y d then some i else findIx d r (i + 1)
def bm1 (m : String) (o a : M) : Option M :=
  match m with
  | "index" => match o.lst?, a with
    | some ys, .val d => if d.flat && ys.all D.flat then (findIx d ys 0).map fun i => .val (.int i) else none
    | _, _ => none
  | "count" => match o.lst?, a with
    | some ys, .val (.bl b) => if ys.all (fun y => match y with | .bl _ => true | _ => false) then some (.val (.int (ys.countP fun y => decide (y = .bl b)))) else none
    | _, _ => none
  | "join" => match o, a.lst?.bind strs? with
    | .val (.str x), some ys => if (ys.map (·.length)).sum + ys.length * x.length ≤ 16777216 then some (.val (.str (PySem.Txt.join x ys))) else none
    | _, _ => none
  | "split" => match o, a with
    | .val (.str x), .val (.str y) => if y.length ≠ 0 ∧ x.length + 2 ≤ LIM then some (.ol ((PySem.Txt.split x y).map .str)) else none
    | _, _ => none
  | _ => none
def getM (o a b : M) : Option M :=
  match o.dic? with
  | some (false, kvs) => match a, b with
    | .val k, .val d => if keyOk false k then some (.val ((dget kvs k).getD d)) else none
    | _, _ => none
  | _ => none
def bm2 (m : String) (o a b : M) : Option M :=
  match m with
  | "get" => getM o a b
  | _ => none

/-! ### the run -/
def same (src : Option Nat) (s s' : Store) : Bool :=
  match src with
  | none => true
  | some n => decide (s[n]? = s'[n]?)
/-- the value of what stands: a container of a slot is frozen; one of a field is no value -/
def vl (m : M) (p : Pl) (e : Env) (s : Store) : Res M :=
  match m with
  | .val d => .ok (.val d) e s
  | m => match p with
    | .slot i => .ok (.val m.frz) (e.set i (some (.val m.frz))) s
    | .tmp => .ok m e s
    | _ => .bad
/-- what stands, to be read: the content, and the object of the store that it belongs to -/
def bw (m : M) (p : Pl) (s : Store) : M × Option Nat :=
  match m with
  | .val (.loc n) => match s[n]? with
    | some ⟨.lst xs, _⟩ => (.ol xs, some n)
    | some ⟨.dic t kvs, _⟩ => (.od t kvs, some n)
    | _ => (m, none)
  | .val d => (.val d, none)
  | m => (m, p.src)
def fldGet (fs : List (String × M)) (f : String) : Option M := (fs.find? fun p => p.1 == f).map (·.2)
def fldPut : List (String × M) → String → M → List (String × M)
  | [], k, v => [(k, v)]
  | (a, b) :: r, k, v => if a == k then (a, v) :: r else (a, b) :: fldPut r k v
/-- names stored from a value -/
def setNames : List Nat → List D → Env → Option Env
  | [], [], e => some e
  | i :: is, d :: ds, e => if i < e.length then setNames is ds (e.set i (some (.val d))) else none
  | _, _, _ => none
def store (t : Tg) (m : M) (e : Env) : Option Env :=
  match t with
  | .one i => if i < e.length then some (e.set i (some m)) else none
  | .many is => match m with
    | .val (.tup ds) => setNames is ds e
    | _ => none
def wipe (e : Env) : List Nat → Env
  | [] => e
  | i :: is => (wipe e is).set i none
def wipeOk (e : Env) (own : List Nat) : Bool := own.all fun i => match e[i]? with
  | some none => true
  | some (some (.val _)) => true
  | _ => false
def back (e0 e : Env) : List Nat → Env
  | [] => e
  | i :: is => (back e0 e is).set i (e0.getD i none)
def M.flat : M → Bool
  | .val .non => true
  | .val (.bl _) => true
  | .val (.int _) => true
  | .val (.str _) => true
  | _ => false
/-- a statement's expression is done: where nothing was changed and its value is flat the slots' own containers are own again -/
def keep (m : M) (e0 e1 : Env) (s0 s1 : Store) : Env := if m.flat = true ∧ s1 = s0 then e0 else e1
def still (ws : List Src) (s s' : Store) : Bool := ws.all fun w => match w with
  | .ent n => decide (s[n]? = s'[n]?)
  | .slot _ => true
/-- what stands, to be walked, and where it stands -/
def wk (m : M) (p : Pl) (s : Store) : M × List Src :=
  match m with
  | .val (.loc n) => match s[n]? with
    | some ⟨.lst xs, _⟩ => (.ol xs, [.ent n])
    | some ⟨.dic t kvs, _⟩ => (.od t kvs, [.ent n])
    | _ => (m, [])
  | .val d => (.val d, [])
  | m => (m, p.walk)
/-- what became of a statement -/
inductive Flow where
  | nx | ret (m : M)
  deriving Inhabited, DecidableEq
def forL (src : List Src) (s0 : Store) (tg : Tg) (body : Env → Store → Res Flow) : List D → Env → Store → Res Flow
  | [], e, s => if still src s0 s then .ok .nx e s else .bad
  | x :: xs, e, s => if still src s0 s then (match store tg (.val x) e with
    | none => .bad
    | some e => (body e s).bind fun f e s => match f with
      | .nx => forL src s0 tg body xs e s
      | .ret m => .ok (.ret m) e s) else .bad
/-- no exception leaves -/
def quiet {α : Type} (r : Res α) : Res α :=
  match r with
  | .ok a e s => .ok a e s
  | _ => .bad
def lcL (src : List Src) (s0 : Store) (own : List Nat) (tg : Tg) (test : Env → Store → Res Bool) (elt : Env → Store → Res D) : List D → List D → Env → Store → Res (List D)
  | [], acc, e, s => if still src s0 s then .ok acc e s else .bad
  | x :: xs, acc, e, s => if still src s0 s then (match store tg (.val x) e with
    | none => .bad
    | some e => (quiet (test e s)).bind fun c e s => if c then (quiet (elt e s)).bind fun d e s => lcL src s0 own tg test elt xs (acc ++ [d]) (wipe e own) s
      else lcL src s0 own tg test elt xs acc (wipe e own) s) else .bad
def whileL (test : Env → Store → Res Bool) (body : Env → Store → Res Flow) : Nat → Env → Store → Res Flow
  | 0, _, _ => .bad
  | k + 1, e, s => (test e s).bind fun c e s => if c then (body e s).bind fun f e s => match f with
    | .nx => whileL test body k e s
    | .ret m => .ok (.ret m) e s
    else .ok .nx e s
def ofRR (r : RR) (e : Env) : Res M :=
  match r with
  | .ok m s => .ok m e s
  | .err c s => .err c e s
  | .bad => .bad
def ofOpt {α : Type} (o : Option α) (e : Env) (s : Store) : Res α :=
  match o with
  | some a => .ok a e s
  | none => .bad
def getB (m : M) (e : Env) (s : Store) : Res Bool :=
  match m with
  | .val (.bl b) => .ok b e s
  | _ => .bad
def isSub (c d : String) : Bool := c == d || d == "GapError"
def tyIs (s : Store) (d : D) (t : Ty) : Option Bool :=
  match t with
  | .own k => match d with
    | .exn c => some (isSub c k)
    | _ => none
  | .valueError => match d with
    | .exn _ => some true
    | _ => none
  | t => match d with
    | .non => some false
    | .bl _ => match t with
      | .bl => some true
      | .int => some true
      | _ => some false
    | .int _ => match t with
      | .int => some true
      | _ => some false
    | .str _ => match t with
      | .str => some true
      | _ => some false
    | .tup _ => match t with
      | .tup => some true
      | _ => some false
    | .lst _ => match t with
      | .lst => some true
      | _ => some false
    | .loc n => match s[n]? with
      | some ⟨.lst _, _⟩ => match t with
        | .lst => some true
        | _ => some false
      | _ => none
    | _ => none
def tyAny (s : Store) (d : D) : List Ty → Option Bool
  | [] => some false
  | t :: ts => match tyIs s d t with
    | some true => some true
    | some false => tyAny s d ts
    | none => none
/-- a container shared from now on -/
def shared (m : M) (s : Store) : M × Store :=
  match m with
  | .ol xs => (.val (.loc s.length), s ++ [⟨.lst xs, 0⟩])
  | .od t kvs => (.val (.loc s.length), s ++ [⟨.dic t kvs, 0⟩])
  | m => (m, s)

section
variable (R : Runs)
/-- two things read, from the left -/
def two {α : Type} (a b : Env → Store → Res (M × Pl)) (k : M → M → Env → Store → Res α) (e : Env) (s : Store) : Res α :=
  (a e s).bind fun x e1 s1 => (b e1 s1).bind fun y e2 s2 =>
    if same (bw x.1 x.2 s1).2 s1 s2 then k (bw x.1 x.2 s1).1 (bw y.1 y.2 s2).1 e2 s2 else .bad
def three {α : Type} (a b c : Env → Store → Res (M × Pl)) (k : M → M → M → Env → Store → Res α) (e : Env) (s : Store) : Res α :=
  (a e s).bind fun x e1 s1 => (b e1 s1).bind fun y e2 s2 => (c e2 s2).bind fun z e3 s3 =>
    if same (bw x.1 x.2 s1).2 s1 s3 && same (bw y.1 y.2 s2).2 s2 s3 then k (bw x.1 x.2 s1).1 (bw y.1 y.2 s2).1 (bw z.1 z.2 s3).1 e3 s3 else .bad
def one {α : Type} (a : Env → Store → Res (M × Pl)) (k : M → Env → Store → Res α) (e : Env) (s : Store) : Res α :=
  (a e s).bind fun x e1 s1 => k (bw x.1 x.2 s1).1 e1 s1
/-- its value, frozen -/
def valD (a : Env → Store → Res (M × Pl)) (e : Env) (s : Store) : Res D :=
  (a e s).bind fun x e1 s1 => (vl x.1 x.2 e1 s1).bind fun m e2 s2 => .ok m.frz e2 s2
def valM (a : Env → Store → Res (M × Pl)) (e : Env) (s : Store) : Res M :=
  (a e s).bind fun x e1 s1 => vl x.1 x.2 e1 s1
def testB (a : Env → Store → Res (M × Pl)) (e : Env) (s : Store) : Res Bool :=
  (a e s).bind fun x e1 s1 => getB x.1 e1 s1
def out (o : Option M) (e : Env) (s : Store) : Res (M × Pl) :=
  match o with
  | some m => .ok (m, .tmp) e s
  | none => .bad
def outB (o : Option Bool) (e : Env) (s : Store) : Res (M × Pl) :=
  match o with
  | some b => .ok (.val (.bl b), .tmp) e s
  | none => .bad
def outM (r : Res M) : Res (M × Pl) := r.bind fun m e s => .ok (m, .tmp) e s
def consD (a : Env → Store → Res D) (r : Env → Store → Res (List D)) (e : Env) (s : Store) : Res (List D) :=
  (a e s).bind fun d e1 s1 => (r e1 s1).bind fun ds e2 s2 => .ok (d :: ds) e2 s2
def rng (i j : Int) : List D := (List.range (j - i).toNat).map fun k => .int (i + (k : Nat))
def rngDown (i j : Int) : List D := (List.range (i - j).toNat).map fun k => .int (i - (k : Nat))
/-- what a walk over it yields -/
def items (m : M) : Option (List D) :=
  match m with
  | .val (.str z) => some (signs z)
  | m => match m.seq? with
    | some xs => some xs
    | none => none
def pairs (a b : M) : Option (List D) :=
  match a, b with
  | .val (.tup xs), .val (.tup ys) => some ((xs.zip ys).map fun p => .tup [p.1, p.2])
  | a, b => match a.lst?, b.lst? with
    | some xs, some ys => some ((xs.zip ys).map fun p => .tup [p.1, p.2])
    | _, _ => none
def getI (m : M) (e : Env) (s : Store) : Res Int :=
  match m with
  | .val (.int i) => if -(2 ^ 62) ≤ i ∧ i < 2 ^ 62 then .ok i e s else .bad
  | _ => .bad
def rngOk (n : Int) : Bool := decide (n ≤ 16777216)

/-! what follows an operand -/
def bmOk (m : String) (x : M) : Bool := if m = "index" ∨ m = "count" then x.lst?.isSome else (match x with | .val (.str _) => true | _ => false)
def dkOk (x : M) : Bool := match x.dic? with | some (false, _) => true | _ => false
def bm1K (m : String) (x : M × Pl) (s1 : Store) (y : M × Pl) (e2 : Env) (s2 : Store) : Res (M × Pl) := if same (bw x.1 x.2 s1).2 s1 s2 then out (bm1 m (bw x.1 x.2 s1).1 (bw y.1 y.2 s2).1) e2 s2 else .bad
def bm2K (m : String) (x : M × Pl) (s1 : Store) (y : M × Pl) (s2 : Store) (z : M × Pl) (e3 : Env) (s3 : Store) : Res (M × Pl) := if same (bw x.1 x.2 s1).2 s1 s3 && same (bw y.1 y.2 s2).2 s2 s3 then out (bm2 m (bw x.1 x.2 s1).1 (bw y.1 y.2 s2).1 (bw z.1 z.2 s3).1) e3 s3 else .bad
def okV (d : D) (e : Env) (s : Store) : Res (M × Pl) := .ok (.val d, .tmp) e s
def okB (b : Bool) (e : Env) (s : Store) : Res (M × Pl) := .ok (.val (.bl b), .tmp) e s
def varK (m : Option (Option M)) (i : Nat) (e : Env) (s : Store) : Res (M × Pl) :=
  match m with
  | some (some m) => .ok (m, .slot i) e s
  | _ => .bad
def negK (x : M) (e : Env) (s : Store) : Res (M × Pl) :=
  match x with
  | .val (.int i) => okV (.int (-i)) e s
  | _ => .bad
def isNK (n : Bool) (x : M) (e : Env) (s : Store) : Res (M × Pl) := okB (if n then !decide (x = .val .non) else decide (x = .val .non)) e s
def isBK (n b : Bool) (x : M) (e : Env) (s : Store) : Res (M × Pl) :=
  match x with
  | .val (.bl c) => okB (if n then !(c == b) else c == b) e s
  | _ => .bad
def chainK (o : Option Bool) (k : Env → Store → Res (M × Pl)) (e : Env) (s : Store) : Res (M × Pl) :=
  match o with
  | some true => k e s
  | some false => okB false e s
  | none => .bad
/-- no container -/
def valK (m : M) (k : Env → Store → Res (M × Pl)) (e : Env) (s : Store) : Res (M × Pl) := if m.isVal then k e s else .bad
def outD (o : Option D) (e : Env) (s : Store) : Res (M × Pl) :=
  match o with
  | some d => okV d e s
  | none => .bad
def bothK (c : Bool) (k : Env → Store → Res (M × Pl)) (e : Env) (s : Store) : Res (M × Pl) := if c then k e s else okB false e s
def eitherK (c : Bool) (k : Env → Store → Res (M × Pl)) (e : Env) (s : Store) : Res (M × Pl) := if c then okB true e s else k e s
def ifeK (c : Bool) (a b : Env → Store → Res M) (e : Env) (s : Store) : Res (M × Pl) := outM (if c then a e s else b e s)
def dctK (t : Bool) (qs : List (D × D)) (e : Env) (s : Store) : Res (M × Pl) := if qs.all fun p => keyOk t p.1 then .ok (.od t (dmerge [] qs), .tmp) e s else .bad
def partK (x : M × Pl) (e : Env) (s : Store) : Res (Option Int) :=
  match x.1 with
  | .val (.int i) => .ok (some i) e s
  | _ => .bad
def lstK (ds : List D) (e : Env) (s : Store) : Res (M × Pl) := .ok (.ol ds, .tmp) e s
def slcK (x : M × Pl) (s1 : Store) (l h : Option Int) (e3 : Env) (s3 : Store) : Res (M × Pl) :=
  if same (bw x.1 x.2 s1).2 s1 s3 then out (slice (bw x.1 x.2 s1).1 l h) e3 s3 else .bad
def isiK (ts : List Ty) (x : M × Pl) (e : Env) (s : Store) : Res (M × Pl) := outB (tyAny s x.1.frz ts) e s
def attrK (f : String) (x : M × Pl) (e : Env) (s : Store) : Res (M × Pl) :=
  match x.1 with
  | .val (.loc n) => match s[n]? with
    | some ⟨.ins _ fs, _⟩ => match fldGet fs f with
      | some m => .ok (m, .fld n f) e s
      | none => .bad
    | _ => .bad
  | _ => .bad
def callK (f : String) (ds : List D) (e : Env) (s : Store) : Res (M × Pl) := outM (ofRR (R f ds s) e)
def newE (n : Nat) (m : M) (e : Env) (s : Store) : Res (M × Pl) :=
  match m with
  | .val .non => okV (.loc n) e s
  | _ => .bad
def newK (k : String) (ds : List D) (e : Env) (s : Store) : Res (M × Pl) := (ofRR (R (k ++ ".__init__") (.loc s.length :: ds) (s ++ [⟨.ins k [], 0⟩])) e).bind (newE s.length)
def methK (k m : String) (x : M × Pl) (as : Env → Store → Res (List D)) (e : Env) (s : Store) : Res (M × Pl) :=
  match x.1 with
  | .val (.loc n) => match s[n]? with
    | some ⟨.ins k' fs, _⟩ => if k' = k ∧ fldGet fs m = none then (as e s).bind fun ds => callK R (k ++ "." ++ m) (.loc n :: ds) else .bad
    | _ => .bad
  | _ => .bad
def appK (x : M × Pl) (e : Env) (s : Store) : Res (M × Pl) :=
  match x.1 with
  | .val (.lam f ds) => callK R f ds e s
  | _ => .bad
def lrangeK (x y : M) (e : Env) (s : Store) : Res (M × Pl) := (getI x e s).bind fun i e s => (getI y e s).bind fun j e s => if rngOk (j - i) then .ok (.ol (rng i j), .tmp) e s else .bad
def shareK (x : M × Pl) (e1 : Env) (s1 : Store) : Res (M × Pl) :=
  match x.2 with
  | .tmp => .ok ((shared x.1 s1).1, .tmp) e1 (shared x.1 s1).2
  | _ => .bad
def lcEnd (e1 : Env) (own : List Nat) (ds : List D) (e2 : Env) (s2 : Store) : Res (M × Pl) := .ok (.ol ds, .tmp) (back e1 e2 own) s2
def lcK (own : List Nat) (tg : Tg) (test : Env → Store → Res Bool) (elt : Env → Store → Res D) (x : List D × List Src) (e1 : Env) (s1 : Store) : Res (M × Pl) :=
  if wipeOk e1 own = true ∧ x.1.length ≤ LIM then (lcL x.2 s1 own tg test elt x.1 [] (wipe e1 own) s1).bind (lcEnd e1 own) else .bad
def itK (x : M × Pl) (e : Env) (s : Store) : Res (List D × List Src) :=
  match items (wk x.1 x.2 s).1 with
  | some xs => .ok (xs, (wk x.1 x.2 s).2) e s
  | none => .bad
def rng1K (x : M × Pl) (e : Env) (s : Store) : Res (List D × List Src) := (getI x.1 e s).bind fun j e s => .ok (rng 0 j, []) e s
def rng2K (x y : M) (e : Env) (s : Store) : Res (List D × List Src) :=
  match x, y with
  | .val (.int i), .val (.int j) => .ok (rng i j, []) e s
  | _, _ => .bad
def rng3K (x y z : M) (e : Env) (s : Store) : Res (List D × List Src) :=
  (getI x e s).bind fun i e s => (getI y e s).bind fun j e s => (getI z e s).bind fun k e s => if k = -1 then .ok (rngDown i j, []) e s else .bad
def zipK (x y : M × Pl) (s1 : Store) (e2 : Env) (s2 : Store) : Res (List D × List Src) :=
  if still (wk x.1 x.2 s1).2 s1 s2 then (match pairs (wk x.1 x.2 s1).1 (wk y.1 y.2 s2).1 with
    | some ps => .ok (ps, (wk x.1 x.2 s1).2 ++ (wk y.1 y.2 s2).2) e2 s2
    | none => .bad) else .bad

mutual
def ev : IE → Env → Store → Res (M × Pl)
  | .var i => fun e s => varK e[i]? i e s
  | .cst d => okV d
  | .glob _ d => okV d
  | .bin op a b => two (ev a) (ev b) (fun x y => out (bin op x y))
  | .neg a => one (ev a) negK
  | .cmp op a b => two (ev a) (ev b) (fun x y => outB (cmp op x y))
  | .chain op op2 a b c => two (ev a) (ev b) (fun x y => valK y (chainK (cmp op x y) (one (ev c) fun z => outB (cmp op2 y z))))
  | .chain3 op op2 op3 a b c d => two (ev a) (ev b) (fun x y => valK y (chainK (cmp op x y) (one (ev c) fun z => valK z (chainK (cmp op2 y z) (one (ev d) fun w => outB (cmp op3 z w))))))
  | .isN n a => one (ev a) (isNK n)
  | .isB n a b => one (ev a) (isBK n b)
  | .both a b => fun e s => (testB (ev a) e s).bind fun c => bothK c (ev b)
  | .either a b => fun e s => (testB (ev a) e s).bind fun c => eitherK c (ev b)
  | .nott a => fun e s => (testB (ev a) e s).bind fun c => okB (!c)
  | .ife c a b => fun e s => (testB (ev c) e s).bind fun k => ifeK k (valM (ev a)) (valM (ev b))
  | .tup es => fun e s => (evs es e s).bind fun ds => okV (.tup ds)
  | .lst es => fun e s => (evs es e s).bind lstK
  | .dct t ps => fun e s => (evk ps e s).bind (dctK t)
  | .idx a b => two (ev a) (ev b) (fun x y => outD (index x y))
  | .slc a lo hi => fun e s => (ev a e s).bind fun x e1 s1 => (evo lo e1 s1).bind fun l e2 s2 => (evo hi e2 s2).bind (slcK x s1 l)
  | .attr a f => fun e s => (ev a e s).bind (attrK f)
  | .call f es => fun e s => (evs es e s).bind (callK R f)
  | .new k es => fun e s => (evs es e s).bind (newK R k)
  | .meth o k m es => fun e s => (ev o e s).bind fun x => methK R k m x (evs es)
  | .bi1 f a => one (ev a) (fun x => out (bi1 f x))
  | .bi2 f a b => two (ev a) (ev b) (fun x y => out (bi2 f x y))
  | .bi3 f a b c => three (ev a) (ev b) (ev c) (fun x y z => out (bi3 f x y z))
  | .bm1 m o a => fun e s => (ev o e s).bind fun x e1 s1 => if bmOk m (bw x.1 x.2 s1).1 then (ev a e1 s1).bind (bm1K m x s1) else .bad
  | .bm2 m o a b => fun e s => (ev o e s).bind fun x e1 s1 => if dkOk (bw x.1 x.2 s1).1 then (ev a e1 s1).bind fun y e2 s2 => (ev b e2 s2).bind (bm2K m x s1 y s2) else .bad
  | .isi a _ ts => fun e s => (ev a e s).bind (isiK ts)
  | .lrange a b => two (ev a) (ev b) lrangeK
  | .lc elt tg it c own => fun e s => (evi it e s).bind (lcK own tg (evc c) (valD (ev elt)))
  | .share a => fun e s => (ev a e s).bind shareK
  | .lam f caps => fun e s => (evs caps e s).bind fun ds => okV (.lam f ds)
  | .app a => fun e s => (ev a e s).bind (appK R)
  | .bad => fun _ _ => .bad
def evs : IEs → Env → Store → Res (List D)
  | .nil => fun e s => .ok [] e s
  | .cons a r => consD (valD (ev a)) (evs r)
def evk : IPs → Env → Store → Res (List (D × D))
  | .nil => fun e s => .ok [] e s
  | .cons a b r => fun e s => (valD (ev a) e s).bind fun k e s => (valD (ev b) e s).bind fun v e s => (evk r e s).bind fun ps e s => .ok ((k, v) :: ps) e s
def evo : IO → Env → Store → Res (Option Int)
  | .no => fun e s => .ok none e s
  | .yes a => fun e s => (ev a e s).bind partK
def evc : IO → Env → Store → Res Bool
  | .no => fun e s => .ok true e s
  | .yes a => testB (ev a)
def evi : It → Env → Store → Res (List D × List Src)
  | .of a => fun e s => (ev a e s).bind itK
  | .rng1 a => fun e s => (ev a e s).bind rng1K
  | .rng2 a b => two (ev a) (ev b) rng2K
  | .rng3 a b c => three (ev a) (ev b) (ev c) rng3K
  | .zip a b => fun e s => (ev a e s).bind fun x e1 s1 => (ev b e1 s1).bind fun y => zipK x y s1
end

/-! ### statements -/
/-- the container that a place holds, to be changed -/
def holdK (sl : List Nat) (p : Pl) : Option Pl :=
  match p with
  | .slot i => if i ∈ sl then some (.slot i) else none
  | .fld n f => some (.fld n f)
  | _ => none
def hold (sl : List Nat) (m : M) (p : Pl) : Option Pl :=
  match m with
  | .val (.loc n) => some (.obj n)
  | .val _ => none
  | _ => holdK sl p
def curr (p : Pl) (e : Env) (s : Store) : Option M :=
  match p with
  | .slot i => match e[i]? with
    | some (some m) => some m
    | _ => none
  | .fld n f => match s[n]? with
    | some ⟨.ins _ fs, _⟩ => fldGet fs f
    | _ => none
  | .obj n => match s[n]? with
    | some ⟨.lst xs, _⟩ => some (.ol xs)
    | some ⟨.dic t kvs, _⟩ => some (.od t kvs)
    | _ => none
  | _ => none
def put (p : Pl) (m : M) (e : Env) (s : Store) : Option (Env × Store) :=
  match p with
  | .slot i => some (e.set i (some m), s)
  | .fld n f => match s[n]? with
    | some ⟨.ins c fs, v⟩ => some (e, s.set n ⟨.ins c (fldPut fs f m), v + 1⟩)
    | _ => none
  | .obj n => match s[n]?, m with
    | some ⟨.lst _, v⟩, .ol xs => some (e, s.set n ⟨.lst xs, v + 1⟩)
    | some ⟨.dic _ _, v⟩, .od t kvs => some (e, s.set n ⟨.dic t kvs, v + 1⟩)
    | _, _ => none
  | _ => none
/-- a field's object must stand as it stood when the place was reckoned -/
def Pl.fsrc : Pl → Option Nat
  | .fld n _ => some n
  | _ => none
def mutate0 (f : String) (m : M) : Option M :=
  match f, m with
  | "clear", .ol _ => some (.ol [])
  | "reverse", .ol xs => some (.ol xs.reverse)
  | _, _ => none
def mutate1 (f : String) (m : M) (d : D) : Option M :=
  match f, m with
  | "append", .ol xs => if xs.length < LIM then some (.ol (xs ++ [d])) else none
  | "extend", .ol xs => match d with
    | .lst ys => if xs.length + ys.length ≤ LIM then some (.ol (xs ++ ys)) else none
    | _ => none
  | "update", .od false kvs => match d with
    | .dic false more => if kvs.length + more.length ≤ LIM then some (.od false (dmerge kvs more)) else none
    | _ => none
  | _, _ => none
def setItem (m : M) (k d : D) : Option M :=
  match m with
  | .ol xs => match k with
    | .int i => (L2.ixN xs.length i).map fun j => .ol (xs.set j d)
    | _ => none
  | .od false kvs => if keyOk false k ∧ kvs.length < LIM then some (.od false (dput kvs k d)) else none
  | _ => none
def movedK (m : M) (p : Pl) (e : Env) (s : Store) : Res Flow :=
  match p with
  | .slot _ => .ok (.ret m) e s
  | .tmp => .ok (.ret m) e s
  | _ => .bad
def moved (x : M × Pl) (e : Env) (s : Store) : Res Flow :=
  match x.1 with
  | .val d => .ok (.ret (.val d)) e s
  | m => movedK m x.2 e s
/-- a test's end: nothing was changed, so the slots' containers are own again -/
def testS (a : Env → Store → Res (M × Pl)) (e : Env) (s : Store) : Res Bool :=
  (testB a e s).bind fun k e1 s1 => .ok k (if s1 = s then e else e1) s1
def pushPl (p : Pl) (om : Option M) (e : Env) (s : Store) : Res Flow :=
  match om with
  | some m => match put p m e s with
    | some (e, s) => .ok .nx e s
    | none => .bad
  | none => .bad

/-- a place's content is exchanged; s1: the store when the place was reckoned -/
def atK (sl : List Nat) (x : M × Pl) (s1 : Store) (f : M → Option M) (e2 : Env) (s2 : Store) : Res Flow :=
  match hold sl x.1 x.2 with
  | some p => if same p.fsrc s1 s2 then (match curr p e2 s2 with
    | some m => pushPl p (f m) e2 s2
    | none => .bad) else .bad
  | none => if x.2 = .tmp ∧ x.1.isVal = false ∧ (f x.1).isSome = true then .ok .nx e2 s2 else .bad
def mut0K (f : String) (sl : List Nat) (x : M × Pl) (e1 : Env) (s1 : Store) : Res Flow := atK sl x s1 (mutate0 f) e1 s1
def kindOk (f : String) (m : M) : Bool := if f = "update" then (match m.dic? with | some (false, _) => true | _ => false) else m.lst1?.isSome
def mut1K (f : String) (sl : List Nat) (a : Env → Store → Res D) (x : M × Pl) (e1 : Env) (s1 : Store) : Res Flow :=
  if kindOk f (bw x.1 x.2 s1).1 then (a e1 s1).bind fun d e2 s2 => atK sl x s1 (fun m => mutate1 f m d) e2 s2 else .bad
/-- the slot that a container's expression names -/
def IE.slot? : IE → List Nat
  | .var i => [i]
  | _ => []
def Tg.slots : Tg → List Nat
  | .one i => [i]
  | .many is => is
mutual
/-- the slots that a statement may store or whose containers it may change -/
def wr : IS → List Nat
  | .asg t _ => t.slots
  | .pop t o => t :: o.slot?
  | .setA _ _ _ => []
  | .setI o _ _ => o.slot?
  | .ret _ => []
  | .ifs _ a b => wrs a ++ wrs b
  | .expr _ => []
  | .mut0 _ o => o.slot?
  | .mut1 _ o _ => o.slot?
  | .fors tg _ b => tg.slots ++ wrs b
  | .whil _ b => wrs b
  | .rais _ => []
  | .tryA b _ _ i h => i :: (wrs b ++ wrs h)
  | .tryM b _ hs => wrs b ++ wrh hs
  | .pass => []
  | .bad => []
def wrs : ISs → List Nat
  | .nil => []
  | .cons a r => wr a ++ wrs r
def wrh : IHs → List Nat
  | .nil => []
  | .cons _ b r => wrs b ++ wrh r
end
/-- a walk's source in a slot is left alone by the body -/
def apart (ws : List Src) (l : List Nat) : Bool := ws.all fun w => match w with
  | .ent _ => true
  | .slot i => !l.contains i
mutual
/-- no caught exception within -/
def D.noEx : D → Bool
  | .tup xs => D.noExs xs
  | .lst xs => D.noExs xs
  | .dic _ kvs => D.noExk kvs
  | .exn _ => false
  | .lam _ xs => D.noExs xs
  | _ => true
def D.noExs : List D → Bool
  | [] => true
  | x :: xs => D.noEx x && D.noExs xs
def D.noExk : List (D × D) → Bool
  | [] => true
  | (_, b) :: xs => D.noEx b && D.noExk xs
end
/-- an except suite that names the exception: it returns, and changes nothing -/
def caught (i : Nat) (s1 : Store) (r : Res Flow) : Res Flow :=
  match r with
  | .ok (.ret m) e2 s2 => if s2 = s1 ∧ m.frz.noEx = true then .ok (.ret m) (e2.set i none) s2 else .bad
  | _ => .bad
mutual
def exec (W : Nat) : IS → Env → Store → Res Flow
  | .asg t a => fun e s => (valM (ev R a) e s).bind fun m e1 s1 => match store t m (keep m e e1 s s1) with
    | some e2 => .ok .nx e2 s1
    | none => .bad
  | .pop t o => fun e s => (ev R o e s).bind fun x e1 s1 => match hold o.slot? x.1 x.2 with
    | some p => match curr p e1 s1 with
      | some (.ol xs) => match xs.getLast? with
        | some d => match put p (.ol xs.dropLast) e1 s1 with
          | some (e2, s2) => match store (.one t) (.val d) e2 with
            | some e3 => .ok .nx e3 s2
            | none => .bad
          | none => .bad
        | none => .bad
      | _ => .bad
    | none => .bad
  | .setA o f a => fun e s => (valM (ev R a) e s).bind fun m e1 s1 => (ev R o e1 s1).bind fun x e2 s2 => match x.1 with
    | .val (.loc n) => match s2[n]? with
      | some ⟨.ins c fs, v⟩ => if fs.length < 900 then .ok .nx (keep m e e2 s s2) (s2.set n ⟨.ins c (fldPut fs f m), v + 1⟩) else .bad
      | _ => .bad
    | _ => .bad
  | .setI o i a => fun e s => (valD (ev R a) e s).bind fun d e1 s1 => (ev R o e1 s1).bind fun x e2 s2 => (valD (ev R i) e2 s2).bind fun k e3 s3 => atK o.slot? x s2 (fun m => setItem m k d) e3 s3
  | .ret a => fun e s => (ev R a e s).bind fun x e1 s1 => moved x e1 s1
  | .ifs c a b => fun e s => (testS (ev R c) e s).bind fun k e1 s1 => if k then execs W a e1 s1 else execs W b e1 s1
  | .expr a => fun e s => (valM (ev R a) e s).bind fun _ e1 s1 => .ok .nx (if s1 = s then e else e1) s1
  | .mut0 f o => fun e s => (ev R o e s).bind fun x e1 s1 => mut0K f o.slot? x e1 s1
  | .mut1 f o a => fun e s => (ev R o e s).bind fun x e1 s1 => mut1K f o.slot? (valD (ev R a)) x e1 s1
  | .fors tg it b => fun e s => (evi R it e s).bind fun x e1 s1 => if apart x.2 (tg.slots ++ wrs b) then forL x.2 s1 tg (execs W b) x.1 e1 s1 else .bad
  | .whil c b => fun e s => whileL (testS (ev R c)) (execs W b) W e s
  | .rais c => fun e s => .err c e s
  | .tryA b ks c i h => fun e s => match execs W b e s with
    | .ok f e1 s1 => .ok f e1 s1
    | .err c' e1 s1 => if ks.contains c' then (if isSub c' c then (if i < e1.length then caught i s1 (execs W h (e1.set i (some (.val (.exn c')))) s1) else .bad) else .err c' e1 s1) else .bad
    | .bad => .bad
  | .tryM b ks hs => fun e s => match execs W b e s with
    | .ok f e1 s1 => .ok f e1 s1
    | .err c e1 s1 => if ks.contains c then execH W hs c e1 s1 else .bad
    | .bad => .bad
  | .pass => fun e s => .ok .nx e s
  | .bad => fun _ _ => .bad
def execs (W : Nat) : ISs → Env → Store → Res Flow
  | .nil => fun e s => .ok .nx e s
  | .cons a r => fun e s => (exec W a e s).bind fun f e s => match f with
    | .nx => execs W r e s
    | .ret m => .ok (.ret m) e s
def execH (W : Nat) : IHs → String → Env → Store → Res Flow
  | .nil => fun c e s => .err c e s
  | .cons d b r => fun c e s => if isSub c d then quiet (execs W b e s) else execH W r c e s
end
end

/-! ### defs -/
mutual
def D.locsLt (n : Nat) : D → Bool
  | .tup xs => D.locsLts n xs
  | .lst xs => D.locsLts n xs
  | .dic _ kvs => D.locsLtk n kvs
  | .loc k => decide (k < n)
  | .lam _ xs => D.locsLts n xs
  | _ => true
def D.locsLts (n : Nat) : List D → Bool
  | [] => true
  | x :: xs => D.locsLt n x && D.locsLts n xs
def D.locsLtk (n : Nat) : List (D × D) → Bool
  | [] => true
  | (a, b) :: xs => D.locsLt n a && D.locsLt n b && D.locsLtk n xs
end
def M.locsLt (n : Nat) (m : M) : Bool := m.frz.locsLt n
/-- what was made meanwhile and can't be reached any more is dropped -/
def gc (s0 : Store) (m : M) (s : Store) : Store := if s.take s0.length = s0 ∧ m.locsLt s0.length = true then s0 else s
def fin (s0 : Store) (r : Res Flow) : RR :=
  match r with
  | .ok .nx _ s => .ok (.val .non) (gc s0 (.val .non) s)
  | .ok (.ret m) _ s => .ok m (gc s0 m s)
  | .err c _ s => .err c (gc s0 (.val .non) s)
  | .bad => .bad
def look (P : Prog) (f : String) : Option Fn := (P.find? fun p => p.1 == f).map (·.2)
def begun (fn : Fn) (ds : List D) : Env := ds.map (fun d => some (.val d)) ++ List.replicate (fn.ns - ds.length) none
def run (P : Prog) (W : Nat) : Nat → Runs
  | 0 => fun _ _ _ => .bad
  | n + 1 => fun f ds s => match look P f with
    | some fn => if ds.length = fn.np ∧ fn.np ≤ fn.ns then fin s (execs (run P W n) W fn.body (begun fn ds) s) else .bad
    | none => .bad
end OI

namespace OI
/-! ### the program as OI has it -/
-- state_in: office number holder desk
def f_state_in : Fn := ⟨2, 4, (.cons (.ifs (.cmp .isin (.var 1) (.attr (.var 0) "words")) (.cons (.ret (.idx (.attr (.var 0) "words") (.var 1)))
  .nil) .nil)
  (.cons (.asg (.one 2) (.meth (.var 0) "Office" "holder" (.cons (.var 1) .nil)))
  (.cons (.ifs (.isN false (.var 2)) (.cons (.ret (.cst (.str "free")))
  .nil) .nil)
  (.cons (.asg (.one 3) (.idx (.attr (.var 0) "desks") (.var 2)))
  (.cons (.ifs (.attr (.var 3) "goes") (.cons (.ret (.cst (.str "open")))
  .nil) .nil)
  (.cons (.ifs (.cmp .isin (.var 1) (.attr (.var 0) "seen")) (.cons (.ret (.cst (.str "paper")))
  .nil) .nil)
  (.cons (.ret (.ife (.cmp .lt (.bm1 "index" (.attr (.var 3) "lying") (.var 1)) (.attr (.var 3) "low")) (.cst (.str "used")) (.cst (.str "rest"))))
  .nil)))))))⟩
-- state_of: office number
def f_state_of : Fn := ⟨2, 2, (.cons (.expr (.meth (.var 0) "Office" "need_number" (.cons (.var 1) .nil)))
  (.cons (.ret (.call "state_in" (.cons (.var 0) (.cons (.var 1) .nil))))
  .nil))⟩
-- gaps: office states number greatest word found
def f_gaps : Fn := ⟨1, 6, (.cons (.asg (.one 1) (.lc (.tup (.cons (.var 2) (.cons (.call "state_in" (.cons (.var 0) (.cons (.var 2) .nil))) .nil))) (.one 2) (.rng2 (.cst (.int 1)) (.bin .add (.attr (.var 0) "top") (.cst (.int 1)))) .no [2]))
  (.cons (.asg (.one 3) (.bi2 "maxd" (.lc (.var 2) (.many [2, 4]) (.of (.var 1)) (.yes (.cmp .isin (.var 4) (.tup (.cons (.cst (.str "paper")) (.cons (.cst (.str "spoilt")) (.cons (.cst (.str "used")) .nil)))))) [2, 4]) (.cst (.int 0))))
  (.cons (.asg (.one 5) (.lst .nil))
  (.cons (.fors (.many [2, 4]) (.of (.slc (.var 1) .no (.yes (.bi2 "max" (.cst (.int 0)) (.bin .sub (.var 3) (.cst (.int 1))))))) (.cons (.ifs (.cmp .ne (.var 4) (.cst (.str "paper"))) (.cons (.mut1 "append" (.var 5) (.tup (.cons (.var 2) (.cons (.var 4) (.cons (.meth (.var 0) "Office" "holder" (.cons (.var 2) .nil)) .nil)))))
  .nil) .nil)
  .nil))
  (.cons (.ret (.var 5))
  .nil)))))⟩
-- Desk.__init__: self
def f_Desk_init : Fn := ⟨1, 1, (.cons (.setA (.var 0) "lying" (.lst .nil))
  (.cons (.setA (.var 0) "goes" (.cst (.bl true)))
  (.cons (.setA (.var 0) "low" (.cst .non))
  .nil)))⟩
-- Office.__init__: self top desks desk
def f_Office_init : Fn := ⟨3, 4, (.cons (.ifs (.either (.nott (.chain .le .le (.cst (.int 1)) (.var 1) (.glob "MOST_TOP" (.int 400)))) (.nott (.chain .le .le (.cst (.int 1)) (.var 2) (.glob "MOST_DESKS" (.int 6))))) (.cons (.rais "NoOffice")
  .nil) .nil)
  (.cons (.setA (.var 0) "top" (.var 1))
  (.cons (.setA (.var 0) "desks" (.lc (.new "Desk" .nil) (.one 3) (.rng1 (.var 2)) .no [3]))
  (.cons (.setA (.var 0) "words" (.dct false .nil))
  (.cons (.setA (.var 0) "seen" (.dct false .nil))
  .nil)))))⟩
-- Office.desk_of: self desk
def f_Office_desk_of : Fn := ⟨2, 2, (.cons (.ifs (.nott (.chain .le .lt (.cst (.int 0)) (.var 1) (.bi1 "len" (.attr (.var 0) "desks")))) (.cons (.rais "NoDesk")
  .nil) .nil)
  (.cons (.ret (.idx (.attr (.var 0) "desks") (.var 1)))
  .nil))⟩
-- Office.going: self desk found
def f_Office_going : Fn := ⟨2, 3, (.cons (.asg (.one 2) (.meth (.var 0) "Office" "desk_of" (.cons (.var 1) .nil)))
  (.cons (.ifs (.nott (.attr (.var 2) "goes")) (.cons (.rais "Stopped")
  .nil) .nil)
  (.cons (.ret (.var 2))
  .nil)))⟩
-- Office.need_number: self number
def f_Office_need_number : Fn := ⟨2, 2, (.cons (.ifs (.nott (.chain .le .le (.cst (.int 1)) (.var 1) (.attr (.var 0) "top"))) (.cons (.rais "NoNumber")
  .nil) .nil)
  .nil)⟩
-- Office.holder: self number desk
def f_Office_holder : Fn := ⟨2, 3, (.cons (.fors (.one 2) (.rng1 (.bi1 "len" (.attr (.var 0) "desks"))) (.cons (.ifs (.cmp .isin (.var 1) (.attr (.idx (.attr (.var 0) "desks") (.var 2)) "lying")) (.cons (.ret (.var 2))
  .nil) .nil)
  .nil))
  (.cons (.ret (.cst .non))
  .nil))⟩
-- Office.is_free: self number
def f_Office_is_free : Fn := ⟨2, 2, (.cons (.ret (.both (.cmp .nin (.var 1) (.attr (.var 0) "words")) (.isN false (.meth (.var 0) "Office" "holder" (.cons (.var 1) .nil)))))
  .nil)⟩
-- Office.lend: self desk many found run number
def f_Office_lend : Fn := ⟨3, 6, (.cons (.asg (.one 3) (.meth (.var 0) "Office" "going" (.cons (.var 1) .nil)))
  (.cons (.ifs (.cmp .lt (.var 2) (.cst (.int 1))) (.cons (.rais "NoCount")
  .nil) .nil)
  (.cons (.asg (.one 4) (.cst (.int 0)))
  (.cons (.fors (.one 5) (.rng2 (.cst (.int 1)) (.bin .add (.attr (.var 0) "top") (.cst (.int 1)))) (.cons (.asg (.one 4) (.ife (.meth (.var 0) "Office" "is_free" (.cons (.var 5) .nil)) (.bin .add (.var 4) (.cst (.int 1))) (.cst (.int 0))))
  (.cons (.ifs (.cmp .eq (.var 4) (.var 2)) (.cons (.mut1 "extend" (.attr (.var 3) "lying") (.lrange (.bin .add (.bin .sub (.var 5) (.var 2)) (.cst (.int 1))) (.bin .add (.var 5) (.cst (.int 1)))))
  (.cons (.ret (.tup (.cons (.bin .add (.bin .sub (.var 5) (.var 2)) (.cst (.int 1))) (.cons (.var 5) .nil))))
  .nil)) .nil)
  .nil)))
  (.cons (.rais "NoRoom")
  .nil)))))⟩
-- Office.report: self desk words found word told number
def f_Office_report : Fn := ⟨3, 7, (.cons (.asg (.one 3) (.meth (.var 0) "Office" "going" (.cons (.var 1) .nil)))
  (.cons (.ifs (.cmp .ne (.lc (.var 4) (.one 4) (.of (.var 2)) (.yes (.cmp .nin (.var 4) (.glob "WORDS" (.tup [.str "paper", .str "spoilt"])))) [4]) (.lst .nil)) (.cons (.rais "NoWord")
  .nil) .nil)
  (.cons (.ifs (.cmp .gt (.bi1 "len" (.var 2)) (.bi1 "len" (.attr (.var 3) "lying"))) (.cons (.rais "Short")
  .nil) .nil)
  (.cons (.asg (.one 5) (.slc (.attr (.var 3) "lying") .no (.yes (.bi1 "len" (.var 2)))))
  (.cons (.fors (.many [6, 4]) (.zip (.var 5) (.var 2)) (.cons (.setI (.attr (.var 0) "words") (.var 6) (.var 4))
  .nil))
  (.cons (.setA (.var 3) "lying" (.slc (.attr (.var 3) "lying") (.yes (.bi1 "len" (.var 2))) .no))
  (.cons (.ret (.var 5))
  .nil)))))))⟩
-- Office.back: self desk found told
def f_Office_back : Fn := ⟨2, 4, (.cons (.asg (.one 2) (.meth (.var 0) "Office" "going" (.cons (.var 1) .nil)))
  (.cons (.asg (.one 3) (.bi1 "sorted" (.attr (.var 2) "lying")))
  (.cons (.setA (.var 2) "lying" (.lst .nil))
  (.cons (.ret (.var 3))
  .nil))))⟩
-- Office.stop: self desk found
def f_Office_stop : Fn := ⟨2, 3, (.cons (.asg (.one 2) (.meth (.var 0) "Office" "going" (.cons (.var 1) .nil)))
  (.cons (.setA (.var 2) "goes" (.cst (.bl false)))
  (.cons (.setA (.var 2) "low" (.cst (.int 0)))
  (.cons (.ret (.bi1 "list" (.attr (.var 2) "lying")))
  .nil))))⟩
-- Office.found: self number holder desk
def f_Office_found : Fn := ⟨2, 4, (.cons (.expr (.meth (.var 0) "Office" "need_number" (.cons (.var 1) .nil)))
  (.cons (.ifs (.either (.cmp .isin (.var 1) (.attr (.var 0) "seen")) (.cmp .eq (.bm2 "get" (.attr (.var 0) "words") (.var 1) (.cst (.str ""))) (.cst (.str "paper")))) (.cons (.rais "Twice")
  .nil) .nil)
  (.cons (.asg (.one 2) (.meth (.var 0) "Office" "holder" (.cons (.var 1) .nil)))
  (.cons (.ifs (.either (.isN false (.var 2)) (.attr (.idx (.attr (.var 0) "desks") (.var 2)) "goes")) (.cons (.rais "NotThere")
  .nil) .nil)
  (.cons (.asg (.one 3) (.idx (.attr (.var 0) "desks") (.var 2)))
  (.cons (.setA (.var 3) "low" (.bi2 "max" (.attr (.var 3) "low") (.bin .add (.bm1 "index" (.attr (.var 3) "lying") (.var 1)) (.cst (.int 1)))))
  (.cons (.setI (.attr (.var 0) "seen") (.var 1) (.cst (.bl true)))
  .nil)))))))⟩
-- Office.settle: self desk many found number told
def f_Office_settle : Fn := ⟨3, 6, (.cons (.asg (.one 3) (.meth (.var 0) "Office" "desk_of" (.cons (.var 1) .nil)))
  (.cons (.ifs (.isN false (.attr (.var 3) "low")) (.cons (.rais "NotThere")
  .nil) .nil)
  (.cons (.ifs (.either (.cmp .lt (.var 2) (.attr (.var 3) "low")) (.cmp .gt (.var 2) (.bi1 "len" (.attr (.var 3) "lying")))) (.cons (.rais "NoCount")
  .nil) .nil)
  (.cons (.fors (.one 4) (.of (.slc (.attr (.var 3) "lying") .no (.yes (.var 2)))) (.cons (.setI (.attr (.var 0) "words") (.var 4) (.ife (.cmp .isin (.var 4) (.attr (.var 0) "seen")) (.cst (.str "paper")) (.cst (.str "used"))))
  .nil))
  (.cons (.asg (.one 5) (.bi1 "sorted" (.slc (.attr (.var 3) "lying") (.yes (.var 2)) .no)))
  (.cons (.setA (.var 3) "lying" (.lst .nil))
  (.cons (.setA (.var 3) "low" (.cst .non))
  (.cons (.ret (.var 5))
  .nil))))))))⟩
-- _law_start: _law_script _law_mixed _law_cell
def f__law_start : Fn := ⟨1, 3, (.cons (.asg (.one 1) (.cst (.int 1)))
  (.cons (.fors (.one 2) (.of (.var 0)) (.cons (.asg (.one 1) (.bin .mod (.bin .add (.bin .add (.bin .mul (.var 1) (.cst (.int 48271))) (.var 2)) (.cst (.int 7))) (.cst (.int 2147483647))))
  .nil))
  (.cons (.ret (.share (.lst (.cons (.var 0) (.cons (.cst (.int 0)) (.cons (.var 1) (.cons (.cst (.int 0)) .nil)))))))
  .nil)))⟩
-- _law_drawn: _law_state_here _law_many _law_found_here _law_cell
def f__law_drawn : Fn := ⟨2, 4, (.cons (.ifs (.cmp .gt (.idx (.var 0) (.cst (.int 3))) (.cst (.int 0))) (.cons (.asg (.one 2) (.bin .mod (.idx (.var 0) (.cst (.int 3))) (.var 1)))
  (.cons (.setI (.var 0) (.cst (.int 3)) (.bin .fdiv (.idx (.var 0) (.cst (.int 3))) (.var 1)))
  (.cons (.ret (.var 2))
  .nil))) .nil)
  (.cons (.setI (.var 0) (.cst (.int 1)) (.bin .add (.idx (.var 0) (.cst (.int 1))) (.cst (.int 1))))
  (.cons (.ifs (.cmp .le (.idx (.var 0) (.cst (.int 1))) (.bi1 "len" (.idx (.var 0) (.cst (.int 0))))) (.cons (.asg (.one 3) (.idx (.idx (.var 0) (.cst (.int 0))) (.bin .sub (.idx (.var 0) (.cst (.int 1))) (.cst (.int 1)))))
  (.cons (.setI (.var 0) (.cst (.int 3)) (.ife (.cmp .ge (.var 3) (.bin .pow (.cst (.int 10)) (.cst (.int 18)))) (.bin .fdiv (.var 3) (.var 1)) (.cst (.int 0))))
  (.cons (.ret (.bin .mod (.var 3) (.var 1)))
  .nil))) .nil)
  (.cons (.setI (.var 0) (.cst (.int 2)) (.bin .mod (.bin .add (.bin .mul (.idx (.var 0) (.cst (.int 2))) (.cst (.int 48271))) (.cst (.int 11))) (.cst (.int 2147483647))))
  (.cons (.ret (.bin .mod (.bin .fdiv (.idx (.var 0) (.cst (.int 2))) (.cst (.int 7))) (.var 1)))
  .nil)))))⟩
-- _law_same: _law_found_here _law_due_here _law_k
def f__law_same : Fn := ⟨2, 3, (.cons (.ifs (.isi (.var 1) false [.tup, .lst]) (.cons (.ifs (.either (.nott (.isi (.var 0) false [.tup, .lst])) (.cmp .ne (.isi (.var 0) true [.lst]) (.isi (.var 1) true [.lst]))) (.cons (.ret (.cst (.bl false)))
  .nil) .nil)
  (.cons (.ifs (.cmp .ne (.bi1 "len" (.var 0)) (.bi1 "len" (.var 1))) (.cons (.ret (.cst (.bl false)))
  .nil) .nil)
  (.cons (.ret (.cmp .eq (.lc (.var 2) (.one 2) (.rng1 (.bi1 "len" (.var 1))) (.yes (.nott (.call "_law_same" (.cons (.idx (.var 0) (.var 2)) (.cons (.idx (.var 1) (.var 2)) .nil))))) [2]) (.lst .nil)))
  .nil))) .nil)
  (.cons (.ifs (.isN false (.var 1)) (.cons (.ret (.isN false (.var 0)))
  .nil) .nil)
  (.cons (.ifs (.isi (.var 1) true [.str]) (.cons (.ret (.both (.isi (.var 0) true [.str]) (.cmp .eq (.var 0) (.var 1))))
  .nil) .nil)
  (.cons (.ifs (.either (.isi (.var 1) true [.bl]) (.isi (.var 0) true [.bl])) (.cons (.ret (.both (.isi (.var 1) true [.bl]) (.both (.isi (.var 0) true [.bl]) (.cmp .eq (.var 0) (.var 1)))))
  .nil) .nil)
  (.cons (.ret (.both (.isi (.var 0) true [.int]) (.cmp .eq (.var 0) (.var 1))))
  .nil)))))⟩
-- _law_office: _law_top _law_desks _law_found_here _law_k
def f__law_office : Fn := ⟨2, 4, (.cons (.asg (.one 2) (.share (.dct false (.cons (.cst (.str "top")) (.var 0) (.cons (.cst (.str "words")) (.share (.dct false .nil)) (.cons (.cst (.str "seen")) (.share (.dct false .nil)) (.cons (.cst (.str "lying")) (.share (.lc (.lst .nil) (.one 3) (.rng1 (.var 1)) .no [3])) .nil)))))))
  (.cons (.mut1 "update" (.var 2) (.dct false (.cons (.cst (.str "goes")) (.share (.lc (.cst (.bl true)) (.one 3) (.rng1 (.var 1)) .no [3])) (.cons (.cst (.str "low")) (.share (.lc (.cst .non) (.one 3) (.rng1 (.var 1)) .no [3])) .nil))))
  (.cons (.ret (.var 2))
  .nil)))⟩
-- _law_holder: _law_m _law_number _law_desk
def f__law_holder : Fn := ⟨2, 3, (.cons (.fors (.one 2) (.rng1 (.bi1 "len" (.idx (.var 0) (.cst (.str "lying"))))) (.cons (.ifs (.cmp .isin (.var 1) (.idx (.idx (.var 0) (.cst (.str "lying"))) (.var 2))) (.cons (.ret (.var 2))
  .nil) .nil)
  .nil))
  (.cons (.ret (.cst .non))
  .nil))⟩
-- _law_lent: _law_m _law_desk _law_many _law_taken _law_row _law_number _law_first _law_block
def f__law_lent : Fn := ⟨3, 8, (.cons (.ifs (.cmp .lt (.var 2) (.cst (.int 1))) (.cons (.ret (.cst (.str "NoCount")))
  .nil) .nil)
  (.cons (.asg (.one 3) (.bi1 "dict" (.idx (.var 0) (.cst (.str "words")))))
  (.cons (.fors (.one 4) (.of (.idx (.var 0) (.cst (.str "lying")))) (.cons (.fors (.one 5) (.of (.var 4)) (.cons (.setI (.var 3) (.var 5) (.cst (.bl true)))
  .nil))
  .nil))
  (.cons (.fors (.one 6) (.rng2 (.cst (.int 1)) (.bin .add (.bin .sub (.idx (.var 0) (.cst (.str "top"))) (.var 2)) (.cst (.int 2)))) (.cons (.asg (.one 7) (.lrange (.var 6) (.bin .add (.var 6) (.var 2))))
  (.cons (.ifs (.cmp .eq (.lc (.var 5) (.one 5) (.of (.var 7)) (.yes (.cmp .isin (.var 5) (.var 3))) [5]) (.lst .nil)) (.cons (.setI (.idx (.var 0) (.cst (.str "lying"))) (.var 1) (.bin .add (.idx (.idx (.var 0) (.cst (.str "lying"))) (.var 1)) (.var 7)))
  (.cons (.ret (.tup (.cons (.var 6) (.cons (.idx (.var 7) (.neg (.cst (.int 1)))) .nil))))
  .nil)) .nil)
  .nil)))
  (.cons (.ret (.cst (.str "NoRoom")))
  .nil)))))⟩
-- _law_reported: _law_m _law_desk _law_words_here _law_word _law_row _law_k
def f__law_reported : Fn := ⟨3, 6, (.cons (.ifs (.cmp .ne (.lc (.var 3) (.one 3) (.of (.var 2)) (.yes (.cmp .nin (.var 3) (.lst (.cons (.cst (.str "paper")) (.cons (.cst (.str "spoilt")) .nil))))) [3]) (.lst .nil)) (.cons (.ret (.cst (.str "NoWord")))
  .nil) .nil)
  (.cons (.asg (.one 4) (.idx (.idx (.var 0) (.cst (.str "lying"))) (.var 1)))
  (.cons (.ifs (.cmp .gt (.bi1 "len" (.var 2)) (.bi1 "len" (.var 4))) (.cons (.ret (.cst (.str "Short")))
  .nil) .nil)
  (.cons (.fors (.one 5) (.rng1 (.bi1 "len" (.var 2))) (.cons (.setI (.idx (.var 0) (.cst (.str "words"))) (.idx (.var 4) (.var 5)) (.idx (.var 2) (.var 5)))
  .nil))
  (.cons (.setI (.idx (.var 0) (.cst (.str "lying"))) (.var 1) (.slc (.var 4) (.yes (.bi1 "len" (.var 2))) .no))
  (.cons (.ret (.slc (.var 4) .no (.yes (.bi1 "len" (.var 2)))))
  .nil))))))⟩
-- _law_found: _law_m _law_number _law_desk
def f__law_found : Fn := ⟨2, 3, (.cons (.ifs (.nott (.chain .le .le (.cst (.int 1)) (.var 1) (.idx (.var 0) (.cst (.str "top"))))) (.cons (.ret (.cst (.str "NoNumber")))
  .nil) .nil)
  (.cons (.ifs (.either (.cmp .isin (.var 1) (.idx (.var 0) (.cst (.str "seen")))) (.cmp .eq (.bm2 "get" (.idx (.var 0) (.cst (.str "words"))) (.var 1) (.cst (.str ""))) (.cst (.str "paper")))) (.cons (.ret (.cst (.str "Twice")))
  .nil) .nil)
  (.cons (.asg (.one 2) (.call "_law_holder" (.cons (.var 0) (.cons (.var 1) .nil))))
  (.cons (.ifs (.either (.isN false (.var 2)) (.idx (.idx (.var 0) (.cst (.str "goes"))) (.var 2))) (.cons (.ret (.cst (.str "NotThere")))
  .nil) .nil)
  (.cons (.setI (.idx (.var 0) (.cst (.str "seen"))) (.var 1) (.cst (.bl true)))
  (.cons (.setI (.idx (.var 0) (.cst (.str "low"))) (.var 2) (.bi2 "max" (.idx (.idx (.var 0) (.cst (.str "low"))) (.var 2)) (.bin .add (.cst (.int 1)) (.bm1 "index" (.idx (.idx (.var 0) (.cst (.str "lying"))) (.var 2)) (.var 1)))))
  (.cons (.ret (.cst .non))
  .nil)))))))⟩
-- _law_settled: _law_m _law_desk _law_many _law_row _law_number
def f__law_settled : Fn := ⟨3, 5, (.cons (.ifs (.isN false (.idx (.idx (.var 0) (.cst (.str "low"))) (.var 1))) (.cons (.ret (.cst (.str "NotThere")))
  .nil) .nil)
  (.cons (.asg (.one 3) (.idx (.idx (.var 0) (.cst (.str "lying"))) (.var 1)))
  (.cons (.ifs (.nott (.chain .le .le (.idx (.idx (.var 0) (.cst (.str "low"))) (.var 1)) (.var 2) (.bi1 "len" (.var 3)))) (.cons (.ret (.cst (.str "NoCount")))
  .nil) .nil)
  (.cons (.fors (.one 4) (.of (.slc (.var 3) .no (.yes (.var 2)))) (.cons (.setI (.idx (.var 0) (.cst (.str "words"))) (.var 4) (.idx (.lst (.cons (.cst (.str "used")) (.cons (.cst (.str "paper")) .nil))) (.bi1 "int" (.cmp .isin (.var 4) (.idx (.var 0) (.cst (.str "seen")))))))
  .nil))
  (.cons (.setI (.idx (.var 0) (.cst (.str "lying"))) (.var 1) (.lst .nil))
  (.cons (.setI (.idx (.var 0) (.cst (.str "low"))) (.var 1) (.cst .non))
  (.cons (.ret (.bi1 "sorted" (.slc (.var 3) (.yes (.var 2)) .no)))
  .nil)))))))⟩
-- _law_due: _law_m _law_deed_here _law_desk _law_row
def f__law_due : Fn := ⟨2, 4, (.cons (.ifs (.cmp .eq (.idx (.var 1) (.cst (.int 0))) (.cst (.str "found"))) (.cons (.ret (.call "_law_found" (.cons (.var 0) (.cons (.idx (.var 1) (.cst (.int 1))) .nil))))
  .nil) .nil)
  (.cons (.asg (.one 2) (.idx (.var 1) (.cst (.int 1))))
  (.cons (.ifs (.nott (.chain .le .lt (.cst (.int 0)) (.var 2) (.bi1 "len" (.idx (.var 0) (.cst (.str "lying")))))) (.cons (.ret (.cst (.str "NoDesk")))
  .nil) .nil)
  (.cons (.ifs (.cmp .eq (.idx (.var 1) (.cst (.int 0))) (.cst (.str "settle"))) (.cons (.ret (.call "_law_settled" (.cons (.var 0) (.cons (.var 2) (.cons (.idx (.var 1) (.cst (.int 2))) .nil)))))
  .nil) .nil)
  (.cons (.ifs (.nott (.idx (.idx (.var 0) (.cst (.str "goes"))) (.var 2))) (.cons (.ret (.cst (.str "Stopped")))
  .nil) .nil)
  (.cons (.ifs (.cmp .eq (.idx (.var 1) (.cst (.int 0))) (.cst (.str "lend"))) (.cons (.ret (.call "_law_lent" (.cons (.var 0) (.cons (.var 2) (.cons (.idx (.var 1) (.cst (.int 2))) .nil)))))
  .nil) .nil)
  (.cons (.ifs (.cmp .eq (.idx (.var 1) (.cst (.int 0))) (.cst (.str "report"))) (.cons (.ret (.call "_law_reported" (.cons (.var 0) (.cons (.var 2) (.cons (.idx (.var 1) (.cst (.int 2))) .nil)))))
  .nil) .nil)
  (.cons (.asg (.one 3) (.idx (.idx (.var 0) (.cst (.str "lying"))) (.var 2)))
  (.cons (.ifs (.cmp .eq (.idx (.var 1) (.cst (.int 0))) (.cst (.str "back"))) (.cons (.setI (.idx (.var 0) (.cst (.str "lying"))) (.var 2) (.lst .nil))
  (.cons (.ret (.bi1 "sorted" (.var 3)))
  .nil)) .nil)
  (.cons (.setI (.idx (.var 0) (.cst (.str "goes"))) (.var 2) (.cst (.bl false)))
  (.cons (.setI (.idx (.var 0) (.cst (.str "low"))) (.var 2) (.cst (.int 0)))
  (.cons (.ret (.bi1 "list" (.var 3)))
  .nil))))))))))))⟩
-- _law_does: _law_office_here _law_deed_here
def f__law_does : Fn := ⟨2, 2, (.cons (.ifs (.cmp .eq (.idx (.var 1) (.cst (.int 0))) (.cst (.str "lend"))) (.cons (.ret (.meth (.var 0) "Office" "lend" (.cons (.idx (.var 1) (.cst (.int 1))) (.cons (.idx (.var 1) (.cst (.int 2))) .nil))))
  .nil) .nil)
  (.cons (.ifs (.cmp .eq (.idx (.var 1) (.cst (.int 0))) (.cst (.str "report"))) (.cons (.ret (.meth (.var 0) "Office" "report" (.cons (.idx (.var 1) (.cst (.int 1))) (.cons (.bi1 "list" (.idx (.var 1) (.cst (.int 2)))) .nil))))
  .nil) .nil)
  (.cons (.ifs (.cmp .eq (.idx (.var 1) (.cst (.int 0))) (.cst (.str "back"))) (.cons (.ret (.meth (.var 0) "Office" "back" (.cons (.idx (.var 1) (.cst (.int 1))) .nil)))
  .nil) .nil)
  (.cons (.ifs (.cmp .eq (.idx (.var 1) (.cst (.int 0))) (.cst (.str "stop"))) (.cons (.ret (.meth (.var 0) "Office" "stop" (.cons (.idx (.var 1) (.cst (.int 1))) .nil)))
  .nil) .nil)
  (.cons (.ifs (.cmp .eq (.idx (.var 1) (.cst (.int 0))) (.cst (.str "found"))) (.cons (.ret (.meth (.var 0) "Office" "found" (.cons (.idx (.var 1) (.cst (.int 1))) .nil)))
  .nil) .nil)
  (.cons (.ret (.meth (.var 0) "Office" "settle" (.cons (.idx (.var 1) (.cst (.int 1))) (.cons (.idx (.var 1) (.cst (.int 2))) .nil))))
  .nil))))))⟩
-- _law_told: _law_office_here _law_deed_here e _law_words_here _law_kinds
def f__law_told : Fn := ⟨2, 5, (.cons (.tryA (.cons (.ret (.call "_law_does" (.cons (.var 0) (.cons (.var 1) .nil))))
  .nil) ["GapError", "NoOffice", "NoDesk", "Stopped", "NoRoom", "NoCount", "NoWord", "Short", "NoNumber", "Twice", "NotThere", "NoWorld", "NoBox"] "GapError" 2 (.cons (.asg (.one 3) (.lst (.cons (.cst (.str "NoDesk")) (.cons (.cst (.str "Stopped")) (.cons (.cst (.str "NoRoom")) (.cons (.cst (.str "NoCount")) (.cons (.cst (.str "NoWord")) (.cons (.cst (.str "Short")) (.cons (.cst (.str "NoNumber")) (.cons (.cst (.str "Twice")) (.cons (.cst (.str "NotThere")) .nil)))))))))))
  (.cons (.asg (.one 4) (.lst (.cons (.isi (.var 2) true [.own "NoDesk"]) (.cons (.isi (.var 2) true [.own "Stopped"]) (.cons (.isi (.var 2) true [.own "NoRoom"]) (.cons (.isi (.var 2) true [.own "NoCount"]) .nil))))))
  (.cons (.asg (.one 4) (.bin .add (.var 4) (.lst (.cons (.isi (.var 2) true [.own "NoWord"]) (.cons (.isi (.var 2) true [.own "Short"]) (.cons (.isi (.var 2) true [.own "NoNumber"]) (.cons (.isi (.var 2) true [.own "Twice"]) .nil)))))))
  (.cons (.mut1 "append" (.var 4) (.isi (.var 2) true [.own "NotThere"]))
  (.cons (.ifs (.either (.cmp .ne (.bm1 "count" (.var 4) (.cst (.bl true))) (.cst (.int 1))) (.either (.isi (.var 2) false [.own "NoBox", .own "NoOffice", .own "NoWorld"]) (.nott (.isi (.var 2) true [.valueError])))) (.cons (.ret (.cst (.str "other")))
  .nil) .nil)
  (.cons (.ret (.idx (.var 3) (.bm1 "index" (.var 4) (.cst (.bl true)))))
  .nil)))))))
  .nil)⟩
-- _law_words: _law_state_here _law_many _law_k
def f__law_words : Fn := ⟨2, 3, (.cons (.ret (.lc (.idx (.lst (.cons (.cst (.str "paper")) (.cons (.cst (.str "spoilt")) (.cons (.cst (.str "paper")) .nil)))) (.call "_law_drawn" (.cons (.var 0) (.cons (.cst (.int 3)) .nil)))) (.one 2) (.rng1 (.var 1)) .no [2]))
  .nil)⟩
-- _law_deed: _law_state_here _law_m _law_wide _law_desk _law_row _law_way
def f__law_deed : Fn := ⟨3, 6, (.cons (.asg (.one 3) (.call "_law_drawn" (.cons (.var 0) (.cons (.bi1 "len" (.idx (.var 1) (.cst (.str "lying")))) .nil))))
  (.cons (.asg (.one 4) (.idx (.idx (.var 1) (.cst (.str "lying"))) (.var 3)))
  (.cons (.asg (.one 5) (.call "_law_drawn" (.cons (.var 0) (.cons (.cst (.int 10)) .nil))))
  (.cons (.ifs (.both (.nott (.idx (.idx (.var 1) (.cst (.str "goes"))) (.var 3))) (.both (.cmp .ne (.var 4) (.lst .nil)) (.cmp .lt (.var 5) (.cst (.int 4))))) (.cons (.ret (.tup (.cons (.cst (.str "found")) (.cons (.idx (.var 4) (.call "_law_drawn" (.cons (.var 0) (.cons (.bi1 "len" (.var 4)) .nil)))) .nil))))
  .nil) .nil)
  (.cons (.ifs (.both (.nott (.idx (.idx (.var 1) (.cst (.str "goes"))) (.var 3))) (.cmp .lt (.var 5) (.cst (.int 7)))) (.cons (.ret (.tup (.cons (.cst (.str "settle")) (.cons (.var 3) (.cons (.call "_law_drawn" (.cons (.var 0) (.cons (.bin .add (.bi1 "len" (.var 4)) (.cst (.int 1))) .nil))) .nil)))))
  .nil) .nil)
  (.cons (.ifs (.cmp .lt (.var 5) (.cst (.int 4))) (.cons (.ret (.tup (.cons (.cst (.str "lend")) (.cons (.var 3) (.cons (.bin .add (.cst (.int 1)) (.call "_law_drawn" (.cons (.var 0) (.cons (.var 2) .nil)))) .nil)))))
  .nil) .nil)
  (.cons (.ifs (.cmp .lt (.var 5) (.cst (.int 7))) (.cons (.ret (.tup (.cons (.cst (.str "report")) (.cons (.var 3) (.cons (.call "_law_words" (.cons (.var 0) (.cons (.call "_law_drawn" (.cons (.var 0) (.cons (.bin .add (.bi1 "len" (.var 4)) (.cst (.int 1))) .nil))) .nil))) .nil)))))
  .nil) .nil)
  (.cons (.ifs (.cmp .eq (.var 5) (.cst (.int 7))) (.cons (.ret (.tup (.cons (.cst (.str "back")) (.cons (.var 3) .nil))))
  .nil) .nil)
  (.cons (.ifs (.cmp .eq (.var 5) (.cst (.int 8))) (.cons (.ret (.tup (.cons (.cst (.str "found")) (.cons (.bin .add (.cst (.int 1)) (.call "_law_drawn" (.cons (.var 0) (.cons (.idx (.var 1) (.cst (.str "top"))) .nil)))) .nil))))
  .nil) .nil)
  (.cons (.ret (.idx (.lst (.cons (.tup (.cons (.cst (.str "stop")) (.cons (.var 3) .nil))) (.cons (.tup (.cons (.cst (.str "lend")) (.cons (.var 3) (.cons (.bin .add (.cst (.int 1)) (.call "_law_drawn" (.cons (.var 0) (.cons (.var 2) .nil)))) .nil)))) .nil))) (.call "_law_drawn" (.cons (.var 0) (.cons (.cst (.int 2)) .nil)))))
  .nil))))))))))⟩
-- _law_made: _law_state_here _law_wide _law_most _law_top _law_desks _law_office_here _law_m _law_turn _law_deed_here
def f__law_made : Fn := ⟨3, 9, (.cons (.asg (.one 3) (.idx (.lst (.cons (.cst (.int 20)) (.cons (.cst (.int 60)) (.cons (.bin .add (.cst (.int 1)) (.call "_law_drawn" (.cons (.var 0) (.cons (.cst (.int 400)) .nil)))) .nil)))) (.call "_law_drawn" (.cons (.var 0) (.cons (.cst (.int 3)) .nil)))))
  (.cons (.asg (.one 4) (.bin .add (.cst (.int 1)) (.call "_law_drawn" (.cons (.var 0) (.cons (.cst (.int 6)) .nil)))))
  (.cons (.asg (.one 5) (.new "Office" (.cons (.var 3) (.cons (.var 4) .nil))))
  (.cons (.asg (.one 6) (.call "_law_office" (.cons (.var 3) (.cons (.var 4) .nil))))
  (.cons (.fors (.one 7) (.rng1 (.call "_law_drawn" (.cons (.var 0) (.cons (.bin .add (.var 2) (.cst (.int 1))) .nil)))) (.cons (.asg (.one 8) (.call "_law_deed" (.cons (.var 0) (.cons (.var 6) (.cons (.var 1) .nil)))))
  (.cons (.ifs (.nott (.call "_law_same" (.cons (.call "_law_told" (.cons (.var 5) (.cons (.var 8) .nil))) (.cons (.call "_law_due" (.cons (.var 6) (.cons (.var 8) .nil))) .nil)))) (.cons (.ret (.cst .non))
  .nil) .nil)
  .nil)))
  (.cons (.ret (.tup (.cons (.var 5) (.cons (.var 6) .nil))))
  .nil))))))⟩
-- _law_state: _law_m _law_number _law_desk
def f__law_state : Fn := ⟨2, 3, (.cons (.ifs (.cmp .isin (.var 1) (.idx (.var 0) (.cst (.str "words")))) (.cons (.ret (.idx (.idx (.var 0) (.cst (.str "words"))) (.var 1)))
  .nil) .nil)
  (.cons (.asg (.one 2) (.call "_law_holder" (.cons (.var 0) (.cons (.var 1) .nil))))
  (.cons (.ifs (.isN false (.var 2)) (.cons (.ret (.cst (.str "free")))
  .nil) .nil)
  (.cons (.ifs (.idx (.idx (.var 0) (.cst (.str "goes"))) (.var 2)) (.cons (.ret (.cst (.str "open")))
  .nil) .nil)
  (.cons (.ifs (.cmp .isin (.var 1) (.idx (.var 0) (.cst (.str "seen")))) (.cons (.ret (.cst (.str "paper")))
  .nil) .nil)
  (.cons (.ret (.idx (.lst (.cons (.cst (.str "rest")) (.cons (.cst (.str "used")) .nil))) (.bi1 "int" (.cmp .lt (.bm1 "index" (.idx (.idx (.var 0) (.cst (.str "lying"))) (.var 2)) (.var 1)) (.idx (.idx (.var 0) (.cst (.str "low"))) (.var 2))))))
  .nil))))))⟩
-- _law_gaps: _law_m _law_greatest _law_found_here _law_number _law_word
def f__law_gaps : Fn := ⟨1, 5, (.cons (.asg (.one 1) (.cst (.int 0)))
  (.cons (.asg (.one 2) (.lst .nil))
  (.cons (.fors (.one 3) (.rng3 (.idx (.var 0) (.cst (.str "top"))) (.cst (.int 0)) (.bin .sub (.cst (.int 0)) (.cst (.int 1)))) (.cons (.asg (.one 4) (.call "_law_state" (.cons (.var 0) (.cons (.var 3) .nil))))
  (.cons (.ifs (.cmp .isin (.var 4) (.lst (.cons (.cst (.str "paper")) (.cons (.cst (.str "spoilt")) (.cons (.cst (.str "used")) .nil))))) (.cons (.asg (.one 1) (.bi2 "max" (.var 1) (.var 3)))
  .nil) .nil)
  (.cons (.ifs (.both (.cmp .lt (.var 3) (.var 1)) (.cmp .ne (.var 4) (.cst (.str "paper")))) (.cons (.mut1 "append" (.var 2) (.tup (.cons (.var 3) (.cons (.var 4) (.cons (.call "_law_holder" (.cons (.var 0) (.cons (.var 3) .nil))) .nil)))))
  .nil) .nil)
  .nil))))
  (.cons (.mut0 "reverse" (.var 2))
  (.cons (.ret (.var 2))
  .nil)))))⟩
-- law: _law_script _law_draws _law_found_here _law_office_here _law_m _law_turn _law_number _law_again _law_told_here _law_deed_here
def f_law : Fn := ⟨1, 10, (.cons (.asg (.one 1) (.call "_law_start" (.cons (.var 0) .nil)))
  (.cons (.asg (.one 2) (.call "_law_made" (.cons (.var 1) (.cons (.cst (.int 6)) (.cons (.cst (.int 60)) .nil)))))
  (.cons (.ifs (.isN false (.var 2)) (.cons (.ret (.cst (.bl false)))
  .nil) .nil)
  (.cons (.asg (.many [3, 4]) (.var 2))
  (.cons (.fors (.one 5) (.rng1 (.cst (.int 4))) (.cons (.fors (.one 6) (.rng2 (.cst (.int 1)) (.bin .add (.idx (.var 4) (.cst (.str "top"))) (.cst (.int 1)))) (.cons (.ifs (.nott (.call "_law_same" (.cons (.call "state_of" (.cons (.var 3) (.cons (.var 6) .nil))) (.cons (.call "_law_state" (.cons (.var 4) (.cons (.var 6) .nil))) .nil)))) (.cons (.ret (.cst (.bl false)))
  .nil) .nil)
  .nil))
  (.cons (.fors (.one 7) (.rng1 (.cst (.int 2))) (.cons (.asg (.one 8) (.call "gaps" (.cons (.var 3) .nil)))
  (.cons (.ifs (.nott (.call "_law_same" (.cons (.var 8) (.cons (.call "_law_gaps" (.cons (.var 4) .nil)) .nil)))) (.cons (.ret (.cst (.bl false)))
  .nil) .nil)
  (.cons (.mut0 "clear" (.var 8))
  .nil))))
  (.cons (.asg (.one 9) (.call "_law_deed" (.cons (.var 1) (.cons (.var 4) (.cons (.cst (.int 6)) .nil)))))
  (.cons (.ifs (.nott (.call "_law_same" (.cons (.call "_law_told" (.cons (.var 3) (.cons (.var 9) .nil))) (.cons (.call "_law_due" (.cons (.var 4) (.cons (.var 9) .nil))) .nil)))) (.cons (.ret (.cst (.bl false)))
  .nil) .nil)
  .nil)))))
  (.cons (.ret (.cst (.bl true)))
  .nil))))))⟩
def prog : Prog := [("state_in", f_state_in), ("state_of", f_state_of), ("gaps", f_gaps), ("Desk.__init__", f_Desk_init), ("Office.__init__", f_Office_init), ("Office.desk_of", f_Office_desk_of), ("Office.going", f_Office_going), ("Office.need_number", f_Office_need_number), ("Office.holder", f_Office_holder), ("Office.is_free", f_Office_is_free), ("Office.lend", f_Office_lend), ("Office.report", f_Office_report), ("Office.back", f_Office_back), ("Office.stop", f_Office_stop), ("Office.found", f_Office_found), ("Office.settle", f_Office_settle), ("_law_start", f__law_start), ("_law_drawn", f__law_drawn), ("_law_same", f__law_same), ("_law_office", f__law_office), ("_law_holder", f__law_holder), ("_law_lent", f__law_lent), ("_law_reported", f__law_reported), ("_law_found", f__law_found), ("_law_settled", f__law_settled), ("_law_due", f__law_due), ("_law_does", f__law_does), ("_law_told", f__law_told), ("_law_words", f__law_words), ("_law_deed", f__law_deed), ("_law_made", f__law_made), ("_law_state", f__law_state), ("_law_gaps", f__law_gaps), ("law", f_law)]
end OI
/-! OIy: reckoning a run: rules for simp. -/
namespace OI.Y
open PySem (Str)
section
variable {R : Runs} {e : Env} {s : Store}
@[scoped simp] theorem bind_ok {α β : Type} (a : α) (e : Env) (s : Store) (f : α → Env → Store → Res β) : (Res.ok a e s).bind f = f a e s := Eq.trans rfl rfl
@[scoped simp] theorem bind_err {α β : Type} (k : String) (e : Env) (s : Store) (f : α → Env → Store → Res β) : (Res.err k e s).bind f = .err k e s := Eq.trans rfl rfl
@[scoped simp] theorem bind_bad {α β : Type} (f : α → Env → Store → Res β) : (Res.bad).bind f = .bad := Eq.trans rfl rfl
@[scoped simp] theorem ev_var (i : Nat) : ev R (.var i) e s = varK e[i]? i e s := Eq.trans rfl rfl
@[scoped simp] theorem ev_cst (d : D) : ev R (.cst d) e s = .ok (.val d, .tmp) e s := Eq.trans rfl rfl
@[scoped simp] theorem ev_bin (op : BOp) (a b : IE) : ev R (.bin op a b) e s = two (ev R a) (ev R b) (fun x y => out (bin op x y)) e s := Eq.trans rfl rfl
@[scoped simp] theorem ev_neg (a : IE) : ev R (.neg a) e s = one (ev R a) negK e s := Eq.trans rfl rfl
@[scoped simp] theorem ev_cmp (op : COp) (a b : IE) : ev R (.cmp op a b) e s = two (ev R a) (ev R b) (fun x y => outB (cmp op x y)) e s := Eq.trans rfl rfl
@[scoped simp] theorem ev_isN (n : Bool) (a : IE) : ev R (.isN n a) e s = one (ev R a) (isNK n) e s := Eq.trans rfl rfl
@[scoped simp] theorem ev_isB (n : Bool) (a : IE) (b : Bool) : ev R (.isB n a b) e s = one (ev R a) (isBK n b) e s := Eq.trans rfl rfl
@[scoped simp] theorem ev_both (a b : IE) : ev R (.both a b) e s = (testB (ev R a) e s).bind fun c => bothK c (ev R b) := Eq.trans rfl rfl
@[scoped simp] theorem ev_either (a b : IE) : ev R (.either a b) e s = (testB (ev R a) e s).bind fun c => eitherK c (ev R b) := Eq.trans rfl rfl
@[scoped simp] theorem ev_nott (a : IE) : ev R (.nott a) e s = (testB (ev R a) e s).bind fun c => okB (!c) := Eq.trans rfl rfl
@[scoped simp] theorem ev_ife (c a b : IE) : ev R (.ife c a b) e s = (testB (ev R c) e s).bind fun k => ifeK k (valM (ev R a)) (valM (ev R b)) := Eq.trans rfl rfl
@[scoped simp] theorem ev_tup (es : IEs) : ev R (.tup es) e s = (evs R es e s).bind fun ds => okV (.tup ds) := Eq.trans rfl rfl
@[scoped simp] theorem ev_lst (es : IEs) : ev R (.lst es) e s = (evs R es e s).bind lstK := Eq.trans rfl rfl
@[scoped simp] theorem ev_idx (a b : IE) : ev R (.idx a b) e s = two (ev R a) (ev R b) (fun x y => outD (index x y)) e s := Eq.trans rfl rfl
@[scoped simp] theorem ev_slc (a : IE) (lo hi : IO) : ev R (.slc a lo hi) e s = (ev R a e s).bind fun x e1 s1 => (evo R lo e1 s1).bind fun l e2 s2 => (evo R hi e2 s2).bind (slcK x s1 l) := Eq.trans rfl rfl
@[scoped simp] theorem ev_call (f : String) (es : IEs) : ev R (.call f es) e s = (evs R es e s).bind (callK R f) := Eq.trans rfl rfl
@[scoped simp] theorem ev_bi1 (f : String) (a : IE) : ev R (.bi1 f a) e s = one (ev R a) (fun x => out (bi1 f x)) e s := Eq.trans rfl rfl
@[scoped simp] theorem ev_bi2 (f : String) (a b : IE) : ev R (.bi2 f a b) e s = two (ev R a) (ev R b) (fun x y => out (bi2 f x y)) e s := Eq.trans rfl rfl
@[scoped simp] theorem ev_isi (a : IE) (o : Bool) (ts : List Ty) : ev R (.isi a o ts) e s = (ev R a e s).bind (isiK ts) := Eq.trans rfl rfl
@[scoped simp] theorem ev_lc (elt : IE) (tg : Tg) (it : It) (c : IO) (own : List Nat) : ev R (.lc elt tg it c own) e s = (evi R it e s).bind (lcK own tg (evc R c) (valD (ev R elt))) := Eq.trans rfl rfl
@[scoped simp] theorem ev_share (a : IE) : ev R (.share a) e s = (ev R a e s).bind shareK := Eq.trans rfl rfl
@[scoped simp] theorem evs_nil : evs R .nil e s = .ok [] e s := Eq.trans rfl rfl
@[scoped simp] theorem evs_cons (a : IE) (r : IEs) : evs R (.cons a r) e s = (valD (ev R a) e s).bind fun d e1 s1 => (evs R r e1 s1).bind fun ds e2 s2 => .ok (d :: ds) e2 s2 := Eq.trans rfl rfl
@[scoped simp] theorem evo_no : evo R .no e s = .ok none e s := Eq.trans rfl rfl
@[scoped simp] theorem evo_yes (a : IE) : evo R (.yes a) e s = (ev R a e s).bind partK := Eq.trans rfl rfl
@[scoped simp] theorem evc_no : evc R .no e s = .ok true e s := Eq.trans rfl rfl
@[scoped simp] theorem evc_yes (a : IE) : evc R (.yes a) e s = testB (ev R a) e s := Eq.trans rfl rfl
@[scoped simp] theorem evi_of (a : IE) : evi R (.of a) e s = (ev R a e s).bind itK := Eq.trans rfl rfl
@[scoped simp] theorem evi_rng1 (a : IE) : evi R (.rng1 a) e s = (ev R a e s).bind rng1K := Eq.trans rfl rfl
@[scoped simp] theorem evi_rng2 (a b : IE) : evi R (.rng2 a b) e s = two (ev R a) (ev R b) rng2K e s := Eq.trans rfl rfl
@[scoped simp] theorem two_def {α : Type} (a b : Env → Store → Res (M × Pl)) (k : M → M → Env → Store → Res α) : two a b k e s = (a e s).bind fun x e1 s1 => (b e1 s1).bind fun y e2 s2 =>
    if same (bw x.1 x.2 s1).2 s1 s2 then k (bw x.1 x.2 s1).1 (bw y.1 y.2 s2).1 e2 s2 else .bad := Eq.trans rfl rfl
@[scoped simp] theorem one_def {α : Type} (a : Env → Store → Res (M × Pl)) (k : M → Env → Store → Res α) : one a k e s = (a e s).bind fun x e1 s1 => k (bw x.1 x.2 s1).1 e1 s1 := Eq.trans rfl rfl
@[scoped simp] theorem valD_def (a : Env → Store → Res (M × Pl)) : valD a e s = (a e s).bind fun x e1 s1 => (vl x.1 x.2 e1 s1).bind fun m e2 s2 => .ok m.frz e2 s2 := Eq.trans rfl rfl
@[scoped simp] theorem valM_def (a : Env → Store → Res (M × Pl)) : valM a e s = (a e s).bind fun x e1 s1 => vl x.1 x.2 e1 s1 := Eq.trans rfl rfl
@[scoped simp] theorem testB_def (a : Env → Store → Res (M × Pl)) : testB a e s = (a e s).bind fun x e1 s1 => getB x.1 e1 s1 := Eq.trans rfl rfl
@[scoped simp] theorem testS_def (a : Env → Store → Res (M × Pl)) : testS a e s = (testB a e s).bind fun k e1 s1 => .ok k (if s1 = s then e else e1) s1 := Eq.trans rfl rfl
@[scoped simp] theorem varK_some (m : M) (i : Nat) : varK (some (some m)) i e s = .ok (m, .slot i) e s := Eq.trans rfl rfl
@[scoped simp] theorem bw_int (i : Int) (p : Pl) : bw (.val (.int i)) p s = (.val (.int i), none) := Eq.trans rfl rfl
@[scoped simp] theorem bw_bl (i : Bool) (p : Pl) : bw (.val (.bl i)) p s = (.val (.bl i), none) := Eq.trans rfl rfl
@[scoped simp] theorem bw_str (i : Str) (p : Pl) : bw (.val (.str i)) p s = (.val (.str i), none) := Eq.trans rfl rfl
@[scoped simp] theorem bw_non (p : Pl) : bw (.val .non) p s = (.val .non, none) := Eq.trans rfl rfl
@[scoped simp] theorem bw_tup (xs : List D) (p : Pl) : bw (.val (.tup xs)) p s = (.val (.tup xs), none) := Eq.trans rfl rfl
@[scoped simp] theorem bw_lst (xs : List D) (p : Pl) : bw (.val (.lst xs)) p s = (.val (.lst xs), none) := Eq.trans rfl rfl
@[scoped simp] theorem bw_dic (t : Bool) (xs : List (D × D)) (p : Pl) : bw (.val (.dic t xs)) p s = (.val (.dic t xs), none) := Eq.trans rfl rfl
@[scoped simp] theorem bw_scr (xs : List Int) (p : Pl) : bw (.val (.scr xs)) p s = (.val (.scr xs), none) := Eq.trans rfl rfl
@[scoped simp] theorem bw_ol (xs : List D) (p : Pl) : bw (.ol xs) p s = (.ol xs, p.src) := Eq.trans rfl rfl
@[scoped simp] theorem bw_od (t : Bool) (xs : List (D × D)) (p : Pl) : bw (.od t xs) p s = (.od t xs, p.src) := Eq.trans rfl rfl
def bwK (o : Option Ent) (n : Nat) : M × Option Nat :=
  match o with
  | some ⟨.lst xs, _⟩ => (.ol xs, some n)
  | some ⟨.dic t kvs, _⟩ => (.od t kvs, some n)
  | _ => (.val (.loc n), none)
@[scoped simp] theorem bw_loc (n : Nat) (p : Pl) : bw (.val (.loc n)) p s = bwK s[n]? n := by
  unfold bw bwK
  dsimp only
  all_goals (split <;> simp_all)
@[scoped simp] theorem bwK_lst (xs : List D) (v n : Nat) : bwK (some ⟨.lst xs, v⟩) n = (.ol xs, some n) := Eq.trans rfl rfl
@[scoped simp] theorem bwK_dic (t : Bool) (xs : List (D × D)) (v n : Nat) : bwK (some ⟨.dic t xs, v⟩) n = (.od t xs, some n) := Eq.trans rfl rfl
@[scoped simp] theorem bwK_ins (k : String) (fs : List (String × M)) (v n : Nat) : bwK (some ⟨.ins k fs, v⟩) n = (.val (.loc n), none) := Eq.trans rfl rfl
@[scoped simp] theorem src_slot (i : Nat) : Pl.src (.slot i) = none := Eq.trans rfl rfl
@[scoped simp] theorem src_tmp : Pl.src .tmp = none := Eq.trans rfl rfl
@[scoped simp] theorem src_oth : Pl.src .oth = none := Eq.trans rfl rfl
@[scoped simp] theorem same_none (s s' : Store) : same none s s' = true := Eq.trans rfl rfl
@[scoped simp] theorem same_self (o : Option Nat) (s : Store) : same o s s = true := by
  cases o with
  | none => rfl
  | some n => exact decide_eq_true rfl
@[scoped simp] theorem out_some (m : M) : out (some m) e s = .ok (m, .tmp) e s := Eq.trans rfl rfl
@[scoped simp] theorem outB_some (b : Bool) : outB (some b) e s = .ok (.val (.bl b), .tmp) e s := Eq.trans rfl rfl
@[scoped simp] theorem outD_some (d : D) : outD (some d) e s = .ok (.val d, .tmp) e s := Eq.trans rfl rfl
@[scoped simp] theorem okV_def (d : D) : okV d e s = .ok (.val d, .tmp) e s := Eq.trans rfl rfl
@[scoped simp] theorem okB_def (d : Bool) : okB d e s = .ok (.val (.bl d), .tmp) e s := Eq.trans rfl rfl
@[scoped simp] theorem vl_val (d : D) (p : Pl) : vl (.val d) p e s = .ok (.val d) e s := Eq.trans rfl rfl
@[scoped simp] theorem vl_tmp (m : M) : vl m .tmp e s = .ok m e s := by cases m <;> rfl
@[scoped simp] theorem vl_ol (xs : List D) (i : Nat) : vl (.ol xs) (.slot i) e s = .ok (.val (.lst xs)) (e.set i (some (.val (.lst xs)))) s := Eq.trans rfl rfl
@[scoped simp] theorem frz_val (d : D) : M.frz (.val d) = d := Eq.trans rfl rfl
@[scoped simp] theorem frz_ol (d : List D) : M.frz (.ol d) = .lst d := Eq.trans rfl rfl
@[scoped simp] theorem getB_bl (b : Bool) : getB (.val (.bl b)) e s = .ok b e s := Eq.trans rfl rfl
@[scoped simp] theorem negK_int (i : Int) : negK (.val (.int i)) e s = .ok (.val (.int (-i)), .tmp) e s := Eq.trans rfl rfl
@[scoped simp] theorem isNK_def (n : Bool) (x : M) : isNK n x e s = .ok (.val (.bl (if n then !decide (x = .val .non) else decide (x = .val .non))), .tmp) e s := Eq.trans rfl rfl
@[scoped simp] theorem bothK_t (k : Env → Store → Res (M × Pl)) : bothK true k e s = k e s := Eq.trans rfl rfl
@[scoped simp] theorem bothK_f (k : Env → Store → Res (M × Pl)) : bothK false k e s = .ok (.val (.bl false), .tmp) e s := Eq.trans rfl rfl
@[scoped simp] theorem eitherK_t (k : Env → Store → Res (M × Pl)) : eitherK true k e s = .ok (.val (.bl true), .tmp) e s := Eq.trans rfl rfl
@[scoped simp] theorem eitherK_f (k : Env → Store → Res (M × Pl)) : eitherK false k e s = k e s := Eq.trans rfl rfl
@[scoped simp] theorem ifeK_t (a b : Env → Store → Res M) : ifeK true a b e s = (a e s).bind fun m e s => .ok (m, .tmp) e s := Eq.trans rfl rfl
@[scoped simp] theorem ifeK_f (a b : Env → Store → Res M) : ifeK false a b e s = (b e s).bind fun m e s => .ok (m, .tmp) e s := Eq.trans rfl rfl
@[scoped simp] theorem lstK_def (ds : List D) : lstK ds e s = .ok (.ol ds, .tmp) e s := Eq.trans rfl rfl
@[scoped simp] theorem partK_int (i : Int) (p : Pl) : partK (.val (.int i), p) e s = .ok (some i) e s := Eq.trans rfl rfl
@[scoped simp] theorem slcK_def (x : M × Pl) (s1 : Store) (l h : Option Int) : slcK x s1 l h e s = if same (bw x.1 x.2 s1).2 s1 s then out (slice (bw x.1 x.2 s1).1 l h) e s else .bad := Eq.trans rfl rfl
@[scoped simp] theorem isiK_def (ts : List Ty) (x : M × Pl) : isiK ts x e s = outB (tyAny s x.1.frz ts) e s := Eq.trans rfl rfl
theorem callK_ok {f : String} {ds : List D} {m : M} {s' : Store} (h : R f ds s = .ok m s') : callK R f ds e s = .ok (m, .tmp) e s' := by
  unfold callK
  rw [h]
  rfl
@[scoped simp] theorem callK_def (f : String) (ds : List D) : callK R f ds e s = outM (ofRR (R f ds s) e) := Eq.trans rfl rfl
@[scoped simp] theorem ofRR_ok (m : M) (s' : Store) : ofRR (.ok m s') e = .ok m e s' := Eq.trans rfl rfl
@[scoped simp] theorem ofRR_err (c : String) (s' : Store) : ofRR (.err c s') e = .err c e s' := Eq.trans rfl rfl
@[scoped simp] theorem outM_ok (m : M) : outM (.ok m e s) = .ok (m, .tmp) e s := Eq.trans rfl rfl
@[scoped simp] theorem outM_err (c : String) : outM (.err c e s) = .err c e s := Eq.trans rfl rfl
@[scoped simp] theorem share_ol (xs : List D) : shareK (.ol xs, .tmp) e s = .ok (.val (.loc s.length), .tmp) e (s ++ [⟨.lst xs, 0⟩]) := Eq.trans rfl rfl
@[scoped simp] theorem share_od (t : Bool) (xs : List (D × D)) : shareK (.od t xs, .tmp) e s = .ok (.val (.loc s.length), .tmp) e (s ++ [⟨.dic t xs, 0⟩]) := Eq.trans rfl rfl
theorem getI_ok' {i : Int} (h1 : -(2 ^ 62) ≤ i) (h2 : i < 2 ^ 62) : getI (.val (.int i)) e s = .ok i e s := if_pos ⟨h1, h2⟩
def tyStep (o r : Option Bool) : Option Bool :=
  match o with
  | some true => some true
  | some false => r
  | none => none
@[scoped simp] theorem tyStep_t (r : Option Bool) : tyStep (some true) r = some true := Eq.trans rfl rfl
@[scoped simp] theorem tyStep_f (r : Option Bool) : tyStep (some false) r = r := Eq.trans rfl rfl
@[scoped simp] theorem tyAny_nil (s : Store) (d : D) : tyAny s d [] = some false := Eq.trans rfl rfl
@[scoped simp] theorem tyAny_cons (s : Store) (d : D) (t : Ty) (ts : List Ty) : tyAny s d (t :: ts) = tyStep (tyIs s d t) (tyAny s d ts) := by
  show (match tyIs s d t with | some true => some true | some false => tyAny s d ts | none => none) = _
  unfold tyStep
  rfl
@[scoped simp] theorem tyIs_non_tup (s : Store)  : tyIs s (.non ) .tup = some false := Eq.trans rfl rfl
@[scoped simp] theorem tyIs_non_lst (s : Store)  : tyIs s (.non ) .lst = some false := Eq.trans rfl rfl
@[scoped simp] theorem tyIs_non_str (s : Store)  : tyIs s (.non ) .str = some false := Eq.trans rfl rfl
@[scoped simp] theorem tyIs_non_bl (s : Store)  : tyIs s (.non ) .bl = some false := Eq.trans rfl rfl
@[scoped simp] theorem tyIs_non_int (s : Store)  : tyIs s (.non ) .int = some false := Eq.trans rfl rfl
@[scoped simp] theorem tyIs_bl_tup (s : Store) (b : Bool) : tyIs s (.bl b) .tup = some false := Eq.trans rfl rfl
@[scoped simp] theorem tyIs_bl_lst (s : Store) (b : Bool) : tyIs s (.bl b) .lst = some false := Eq.trans rfl rfl
@[scoped simp] theorem tyIs_bl_str (s : Store) (b : Bool) : tyIs s (.bl b) .str = some false := Eq.trans rfl rfl
@[scoped simp] theorem tyIs_bl_bl (s : Store) (b : Bool) : tyIs s (.bl b) .bl = some true := Eq.trans rfl rfl
@[scoped simp] theorem tyIs_bl_int (s : Store) (b : Bool) : tyIs s (.bl b) .int = some true := Eq.trans rfl rfl
@[scoped simp] theorem tyIs_int_tup (s : Store) (b : Int) : tyIs s (.int b) .tup = some false := Eq.trans rfl rfl
@[scoped simp] theorem tyIs_int_lst (s : Store) (b : Int) : tyIs s (.int b) .lst = some false := Eq.trans rfl rfl
@[scoped simp] theorem tyIs_int_str (s : Store) (b : Int) : tyIs s (.int b) .str = some false := Eq.trans rfl rfl
@[scoped simp] theorem tyIs_int_bl (s : Store) (b : Int) : tyIs s (.int b) .bl = some false := Eq.trans rfl rfl
@[scoped simp] theorem tyIs_int_int (s : Store) (b : Int) : tyIs s (.int b) .int = some true := Eq.trans rfl rfl
@[scoped simp] theorem tyIs_str_tup (s : Store) (b : Str) : tyIs s (.str b) .tup = some false := Eq.trans rfl rfl
@[scoped simp] theorem tyIs_str_lst (s : Store) (b : Str) : tyIs s (.str b) .lst = some false := Eq.trans rfl rfl
@[scoped simp] theorem tyIs_str_str (s : Store) (b : Str) : tyIs s (.str b) .str = some true := Eq.trans rfl rfl
@[scoped simp] theorem tyIs_str_bl (s : Store) (b : Str) : tyIs s (.str b) .bl = some false := Eq.trans rfl rfl
@[scoped simp] theorem tyIs_str_int (s : Store) (b : Str) : tyIs s (.str b) .int = some false := Eq.trans rfl rfl
@[scoped simp] theorem tyIs_tup_tup (s : Store) (b : List D) : tyIs s (.tup b) .tup = some true := Eq.trans rfl rfl
@[scoped simp] theorem tyIs_tup_lst (s : Store) (b : List D) : tyIs s (.tup b) .lst = some false := Eq.trans rfl rfl
@[scoped simp] theorem tyIs_tup_str (s : Store) (b : List D) : tyIs s (.tup b) .str = some false := Eq.trans rfl rfl
@[scoped simp] theorem tyIs_tup_bl (s : Store) (b : List D) : tyIs s (.tup b) .bl = some false := Eq.trans rfl rfl
@[scoped simp] theorem tyIs_tup_int (s : Store) (b : List D) : tyIs s (.tup b) .int = some false := Eq.trans rfl rfl
@[scoped simp] theorem tyIs_lst_tup (s : Store) (b : List D) : tyIs s (.lst b) .tup = some false := Eq.trans rfl rfl
@[scoped simp] theorem tyIs_lst_lst (s : Store) (b : List D) : tyIs s (.lst b) .lst = some true := Eq.trans rfl rfl
@[scoped simp] theorem tyIs_lst_str (s : Store) (b : List D) : tyIs s (.lst b) .str = some false := Eq.trans rfl rfl
@[scoped simp] theorem tyIs_lst_bl (s : Store) (b : List D) : tyIs s (.lst b) .bl = some false := Eq.trans rfl rfl
@[scoped simp] theorem tyIs_lst_int (s : Store) (b : List D) : tyIs s (.lst b) .int = some false := Eq.trans rfl rfl
theorem getI_len {n : Nat} (h : n ≤ LIM) : getI (.val (.int n)) e s = .ok (n : Int) e s := by
  have h2 : n ≤ 16777216 := h
  exact getI_ok' (by omega) (by omega)
@[scoped simp] theorem rng1_int (i : Int) (p : Pl) : rng1K (.val (.int i), p) e s = (getI (.val (.int i)) e s).bind fun j e s => .ok (rng 0 j, []) e s := Eq.trans rfl rfl
/-! the operators at plain values -/
@[scoped simp] theorem bin_addI (i j : Int) : bin .add (.val (.int i)) (.val (.int j)) = some (.val (.int (i + j))) := Eq.trans rfl rfl
@[scoped simp] theorem bin_subI (i j : Int) : bin .sub (.val (.int i)) (.val (.int j)) = some (.val (.int (i - j))) := Eq.trans rfl rfl
theorem bin_mulI {i j : Int} (h : (-(2 ^ 64) < i ∧ i < 2 ^ 64) ∨ (-(2 ^ 64) < j ∧ j < 2 ^ 64)) : bin .mul (.val (.int i)) (.val (.int j)) = some (.val (.int (i * j))) := if_pos h
theorem bin_mulR {i j : Int} (h1 : -(2 ^ 64) < j) (h2 : j < 2 ^ 64) : bin .mul (.val (.int i)) (.val (.int j)) = some (.val (.int (i * j))) := if_pos (.inr ⟨h1, h2⟩)
theorem bin_modI {i j : Int} (h : 0 < j) : bin .mod (.val (.int i)) (.val (.int j)) = some (.val (.int (i % j))) := by
  show ((if 0 < j then some (i % j) else none).map fun k => M.val (.int k)) = _
  rw [if_pos h]
  rfl
theorem bin_fdivI {i j : Int} (h : 0 < j) (h2 : j < 2 ^ 200) : bin .fdiv (.val (.int i)) (.val (.int j)) = some (.val (.int (i / j))) := by
  have h3 : j.natAbs.log2 < 9000 := by
    have h4 : j.natAbs < 2 ^ 200 := by omega
    have h5 : j.natAbs.log2 < 200 := (Nat.log2_lt (by omega)).mpr h4
    omega
  show ((if 0 < j ∧ j.natAbs.log2 < 9000 then some (i / j) else none).map fun k => M.val (.int k)) = _
  rw [if_pos ⟨h, h3⟩]
  rfl
theorem bin_powI {i j : Int} (h : 0 ≤ j ∧ j ≤ 1000000 ∧ i.natAbs < 2 ^ 64) : bin .pow (.val (.int i)) (.val (.int j)) = some (.val (.int (i ^ j.toNat))) := by
  show ((if 0 ≤ j ∧ j ≤ 1000000 ∧ i.natAbs < 2 ^ 64 then some (i ^ j.toNat) else none).map fun k => M.val (.int k)) = _
  rw [if_pos h]
  rfl
theorem bin_addT {xs ys : List D} (h : xs.length + ys.length ≤ LIM) : bin .add (.val (.tup xs)) (.val (.tup ys)) = some (.val (.tup (xs ++ ys))) := if_pos h
theorem bin_addL {a b : M} {xs ys : List D} (ha : a.lst1? = some xs) (hb : b.lst1? = some ys) (h : xs.length + ys.length ≤ LIM) : bin .add a b = some (.ol (xs ++ ys)) := by
  show addM a b = _
  unfold addM
  split
  · cases ha
  · cases ha
  · cases ha
  · rw [ha, hb]
    exact if_pos h
@[scoped simp] theorem cmp_ltI (i j : Int) : cmp .lt (.val (.int i)) (.val (.int j)) = some (decide (i < j)) := Eq.trans rfl rfl
@[scoped simp] theorem cmp_leI (i j : Int) : cmp .le (.val (.int i)) (.val (.int j)) = some (decide (i ≤ j)) := Eq.trans rfl rfl
@[scoped simp] theorem cmp_gtI (i j : Int) : cmp .gt (.val (.int i)) (.val (.int j)) = some (decide (j < i)) := Eq.trans rfl rfl
@[scoped simp] theorem cmp_geI (i j : Int) : cmp .ge (.val (.int i)) (.val (.int j)) = some (decide (j ≤ i)) := Eq.trans rfl rfl
@[scoped simp] theorem cmp_eqI (i j : Int) : cmp .eq (.val (.int i)) (.val (.int j)) = some (decide (i = j)) := by
  show some (i == j) = _
  rw [Bool.beq_eq_decide_eq]
@[scoped simp] theorem cmp_neI (i j : Int) : cmp .ne (.val (.int i)) (.val (.int j)) = some (!decide (i = j)) := by
  show some (!(i == j)) = _
  rw [Bool.beq_eq_decide_eq]
@[scoped simp] theorem cmp_eqB (i j : Bool) : cmp .eq (.val (.bl i)) (.val (.bl j)) = some (decide (i = j)) := by cases i <;> cases j <;> rfl
@[scoped simp] theorem cmp_neB (i j : Bool) : cmp .ne (.val (.bl i)) (.val (.bl j)) = some (!decide (i = j)) := by cases i <;> cases j <;> rfl
@[scoped simp] theorem cmp_eqS (i j : Str) : cmp .eq (.val (.str i)) (.val (.str j)) = some (decide (i = j)) := Eq.trans rfl rfl
@[scoped simp] theorem cmp_neS (i j : Str) : cmp .ne (.val (.str i)) (.val (.str j)) = some (!decide (i = j)) := Eq.trans rfl rfl
@[scoped simp] theorem cmp_eqL0 : cmp .eq (.ol []) (.ol []) = some true := Eq.trans rfl rfl
@[scoped simp] theorem lst1_ol (xs : List D) : M.lst1? (.ol xs) = some xs := Eq.trans rfl rfl
@[scoped simp] theorem lst1_lst (xs : List D) : M.lst1? (.val (.lst xs)) = some xs := Eq.trans rfl rfl
@[scoped simp] theorem index_ol (xs : List D) (i : Int) : index (.ol xs) (.val (.int i)) = L2.atI xs i := Eq.trans rfl rfl
@[scoped simp] theorem index_lst (xs : List D) (i : Int) : index (.val (.lst xs)) (.val (.int i)) = L2.atI xs i := Eq.trans rfl rfl
@[scoped simp] theorem index_tup (xs : List D) (i : Int) : index (.val (.tup xs)) (.val (.int i)) = L2.atI xs i := Eq.trans rfl rfl
@[scoped simp] theorem index_scr (xs : List Int) (i : Int) : index (.val (.scr xs)) (.val (.int i)) = L2.atI (xs.map .int) i := Eq.trans rfl rfl
theorem atI_at {α : Type} {xs : List α} {i : Int} {k : Nat} (h : i = (k : Int)) (hk : k < xs.length) : L2.atI xs i = xs[k]? := by
  subst h
  unfold L2.atI L2.ixN
  rw [if_pos (Int.natCast_nonneg k), if_pos (by exact_mod_cast hk)]
  rfl
@[scoped simp] theorem atI_c0 {α : Type} (a0 : α) (r : List α) : L2.atI (a0 :: r) 0 = some a0 := (atI_at (i := 0) (k := 0) rfl (by simp only [List.length_cons]; omega)).trans rfl
@[scoped simp] theorem atI_c1 {α : Type} (a0 a1 : α) (r : List α) : L2.atI (a0 :: a1 :: r) 1 = some a1 := (atI_at (i := 1) (k := 1) rfl (by simp only [List.length_cons]; omega)).trans rfl
@[scoped simp] theorem atI_c2 {α : Type} (a0 a1 a2 : α) (r : List α) : L2.atI (a0 :: a1 :: a2 :: r) 2 = some a2 := (atI_at (i := 2) (k := 2) rfl (by simp only [List.length_cons]; omega)).trans rfl
@[scoped simp] theorem atI_c3 {α : Type} (a0 a1 a2 a3 : α) (r : List α) : L2.atI (a0 :: a1 :: a2 :: a3 :: r) 3 = some a3 := (atI_at (i := 3) (k := 3) rfl (by simp only [List.length_cons]; omega)).trans rfl
@[scoped simp] theorem atI_c4 {α : Type} (a0 a1 a2 a3 a4 : α) (r : List α) : L2.atI (a0 :: a1 :: a2 :: a3 :: a4 :: r) 4 = some a4 := (atI_at (i := 4) (k := 4) rfl (by simp only [List.length_cons]; omega)).trans rfl
@[scoped simp] theorem atI_c5 {α : Type} (a0 a1 a2 a3 a4 a5 : α) (r : List α) : L2.atI (a0 :: a1 :: a2 :: a3 :: a4 :: a5 :: r) 5 = some a5 := (atI_at (i := 5) (k := 5) rfl (by simp only [List.length_cons]; omega)).trans rfl
@[scoped simp] theorem atI_c6 {α : Type} (a0 a1 a2 a3 a4 a5 a6 : α) (r : List α) : L2.atI (a0 :: a1 :: a2 :: a3 :: a4 :: a5 :: a6 :: r) 6 = some a6 := (atI_at (i := 6) (k := 6) rfl (by simp only [List.length_cons]; omega)).trans rfl
@[scoped simp] theorem atI_c7 {α : Type} (a0 a1 a2 a3 a4 a5 a6 a7 : α) (r : List α) : L2.atI (a0 :: a1 :: a2 :: a3 :: a4 :: a5 :: a6 :: a7 :: r) 7 = some a7 := (atI_at (i := 7) (k := 7) rfl (by simp only [List.length_cons]; omega)).trans rfl
@[scoped simp] theorem atI_c8 {α : Type} (a0 a1 a2 a3 a4 a5 a6 a7 a8 : α) (r : List α) : L2.atI (a0 :: a1 :: a2 :: a3 :: a4 :: a5 :: a6 :: a7 :: a8 :: r) 8 = some a8 := (atI_at (i := 8) (k := 8) rfl (by simp only [List.length_cons]; omega)).trans rfl
@[scoped simp] theorem len_ol (xs : List D) : bi1 "len" (.ol xs) = some (.val (.int xs.length)) := Eq.trans rfl rfl
@[scoped simp] theorem len_lst' (xs : List D) : bi1 "len" (.val (.lst xs)) = some (.val (.int xs.length)) := Eq.trans rfl rfl
@[scoped simp] theorem len_tup (xs : List D) : bi1 "len" (.val (.tup xs)) = some (.val (.int xs.length)) := Eq.trans rfl rfl
@[scoped simp] theorem len_scr (xs : List Int) : bi1 "len" (.val (.scr xs)) = some (.val (.int xs.length)) := by
  show some (M.val (.int ((xs.map D.int).length : Nat))) = _
  rw [List.length_map]
@[scoped simp] theorem tuple_ol (xs : List D) : bi1 "tuple" (.ol xs) = some (.val (.tup xs)) := Eq.trans rfl rfl
@[scoped simp] theorem tuple_lst (xs : List D) : bi1 "tuple" (.val (.lst xs)) = some (.val (.tup xs)) := Eq.trans rfl rfl
@[scoped simp] theorem int_bl (b : Bool) : bi1 "int" (.val (.bl b)) = some (.val (.int (if b then 1 else 0))) := Eq.trans rfl rfl
end

/-! ### statements -/
section
variable {R : Runs} {W : Nat} {e : Env} {s : Store}
@[scoped simp] theorem ex_nil : execs R W .nil e s = .ok .nx e s := Eq.trans rfl rfl
@[scoped simp] theorem ex_cons (a : IS) (r : ISs) : execs R W (.cons a r) e s = (exec R W a e s).bind fun f e s => match f with
    | .nx => execs R W r e s
    | .ret m => .ok (.ret m) e s := Eq.trans rfl rfl
@[scoped simp] theorem ex_asg (t : Tg) (a : IE) : exec R W (.asg t a) e s = (valM (ev R a) e s).bind fun m e1 s1 => match store t m (keep m e e1 s s1) with
    | some e2 => .ok .nx e2 s1
    | none => .bad := Eq.trans rfl rfl
@[scoped simp] theorem ex_ret (a : IE) : exec R W (.ret a) e s = (ev R a e s).bind fun x e1 s1 => moved x e1 s1 := Eq.trans rfl rfl
@[scoped simp] theorem ex_ifs (c : IE) (a b : ISs) : exec R W (.ifs c a b) e s = (testS (ev R c) e s).bind fun k e1 s1 => if k then execs R W a e1 s1 else execs R W b e1 s1 := Eq.trans rfl rfl
@[scoped simp] theorem ex_expr (a : IE) : exec R W (.expr a) e s = (valM (ev R a) e s).bind fun _ e1 s1 => .ok .nx (if s1 = s then e else e1) s1 := Eq.trans rfl rfl
@[scoped simp] theorem ex_setI (o i a : IE) : exec R W (.setI o i a) e s = (valD (ev R a) e s).bind fun d e1 s1 => (ev R o e1 s1).bind fun x e2 s2 => (valD (ev R i) e2 s2).bind fun k e3 s3 => atK o.slot? x s2 (fun m => setItem m k d) e3 s3 := Eq.trans rfl rfl
@[scoped simp] theorem ex_mut0 (f : String) (o : IE) : exec R W (.mut0 f o) e s = (ev R o e s).bind fun x e1 s1 => mut0K f o.slot? x e1 s1 := Eq.trans rfl rfl
@[scoped simp] theorem ex_mut1 (f : String) (o a : IE) : exec R W (.mut1 f o a) e s = (ev R o e s).bind fun x e1 s1 => mut1K f o.slot? (valD (ev R a)) x e1 s1 := Eq.trans rfl rfl
@[scoped simp] theorem ex_fors (tg : Tg) (it : It) (b : ISs) : exec R W (.fors tg it b) e s = (evi R it e s).bind fun x e1 s1 => if apart x.2 (tg.slots ++ wrs b) then forL x.2 s1 tg (execs R W b) x.1 e1 s1 else .bad := Eq.trans rfl rfl
@[scoped simp] theorem ex_whil (c : IE) (b : ISs) : exec R W (.whil c b) e s = whileL (testS (ev R c)) (execs R W b) W e s := Eq.trans rfl rfl
@[scoped simp] theorem forL_nil (src : List Src) (s0 : Store) (tg : Tg) (b : Env → Store → Res Flow) : forL src s0 tg b [] e s = if still src s0 s then .ok .nx e s else .bad := Eq.trans rfl rfl
theorem forL_cons (src : List Src) (s0 : Store) (tg : Tg) (b : Env → Store → Res Flow) (x : D) (xs : List D) : forL src s0 tg b (x :: xs) e s = if still src s0 s then (match store tg (.val x) e with
    | none => .bad
    | some e => (b e s).bind fun f e s => match f with
      | .nx => forL src s0 tg b xs e s
      | .ret m => .ok (.ret m) e s) else .bad := Eq.trans rfl rfl
@[scoped simp] theorem still_nil (s s' : Store) : still [] s s' = true := Eq.trans rfl rfl
@[scoped simp] theorem still_slot (i : Nat) (ws : List Src) (s s' : Store) : still (.slot i :: ws) s s' = still ws s s' := Eq.trans rfl rfl
theorem still_ent (i : Nat) (ws : List Src) (s s' : Store) : still (.ent i :: ws) s s' = (decide (s[i]? = s'[i]?) && still ws s s') := rfl
@[scoped simp] theorem still_self (ws : List Src) (s : Store) : still ws s s = true := by
  unfold still
  rw [List.all_eq_true]
  intro w _
  cases w with
  | ent n => exact decide_eq_true rfl
  | slot i => rfl
@[scoped simp] theorem apart_nil (l : List Nat) : apart [] l = true := Eq.trans rfl rfl
@[scoped simp] theorem quiet_ok' {α : Type} (a : α) : quiet (.ok a e s) = .ok a e s := Eq.trans rfl rfl
/-- a comprehension that takes nothing -/
theorem lc_none {src : List Src} {s0 : Store} {own : List Nat} {tg : Tg} {test : Env → Store → Res Bool} {elt : Env → Store → Res D} (hs : still src s0 s = true) : ∀ {l : List D} (acc : List D), (∀ x ∈ l, ∃ e1 e2, store tg (.val x) e = some e1 ∧ test e1 s = .ok false e2 s ∧ wipe e2 own = e) → lcL src s0 own tg test elt l acc e s = .ok acc e s
  | [], acc, _ => if_pos hs
  | x :: l, acc, h => by
    obtain ⟨e1, e2, h1, h2, h3⟩ := h x (List.mem_cons_self ..)
    unfold lcL
    rw [if_pos hs, h1]
    dsimp only
    rw [h2]
    simp only [quiet_ok', bind_ok, Bool.false_eq_true, if_false]
    rw [h3]
    exact lc_none hs acc fun y hy => h y (List.mem_cons_of_mem _ hy)
/-- a comprehension that takes all -/
theorem lc_all {src : List Src} {s0 : Store} {own : List Nat} {tg : Tg} {test : Env → Store → Res Bool} {elt : Env → Store → Res D} {g : D → D} (hs : still src s0 s = true) : ∀ {l : List D} (acc : List D), (∀ x ∈ l, ∃ e1 e2 e3, store tg (.val x) e = some e1 ∧ test e1 s = .ok true e2 s ∧ elt e2 s = .ok (g x) e3 s ∧ wipe e3 own = e) → lcL src s0 own tg test elt l acc e s = .ok (acc ++ l.map g) e s
  | [], acc, _ => by
    rw [List.map_nil, List.append_nil]
    exact if_pos hs
  | x :: l, acc, h => by
    obtain ⟨e1, e2, e3, h1, h2, h3, h4⟩ := h x (List.mem_cons_self ..)
    unfold lcL
    rw [if_pos hs, h1]
    dsimp only
    rw [h2]
    simp only [quiet_ok', bind_ok, if_true]
    rw [h3]
    simp only [quiet_ok', bind_ok]
    rw [h4, lc_all hs (acc ++ [g x]) fun y hy => h y (List.mem_cons_of_mem _ hy), List.map_cons, List.append_assoc]
    rfl
@[scoped simp] theorem moved_val (d : D) (p : Pl) : moved (.val d, p) e s = .ok (.ret (.val d)) e s := Eq.trans rfl rfl
@[scoped simp] theorem moved_tmp (m : M) : moved (m, .tmp) e s = .ok (.ret m) e s := by cases m <;> rfl
@[scoped simp] theorem moved_slot (m : M) (i : Nat) : moved (m, .slot i) e s = .ok (.ret m) e s := by cases m <;> rfl
@[scoped simp] theorem store_one {i : Nat} {m : M} : store (.one i) m e = if i < e.length then some (e.set i (some m)) else none := Eq.trans rfl rfl
@[scoped simp] theorem store_many {is : List Nat} {ds : List D} : store (.many is) (.val (.tup ds)) e = setNames is ds e := Eq.trans rfl rfl
@[scoped simp] theorem setNames_nil : setNames [] [] e = some e := Eq.trans rfl rfl
@[scoped simp] theorem setNames_cons (i : Nat) (is : List Nat) (d : D) (ds : List D) : setNames (i :: is) (d :: ds) e = if i < e.length then setNames is ds (e.set i (some (.val d))) else none := Eq.trans rfl rfl
@[scoped simp] theorem keep_same (m : M) (s0 s1 : Store) : keep m e e s0 s1 = e := by unfold keep; split <;> rfl
@[scoped simp] theorem keep_tup (xs : List D) (e1 : Env) (s0 s1 : Store) : keep (.val (.tup xs)) e e1 s0 s1 = e1 := if_neg fun h => nomatch h.1
@[scoped simp] theorem keep_lst (xs : List D) (e1 : Env) (s0 s1 : Store) : keep (.val (.lst xs)) e e1 s0 s1 = e1 := if_neg fun h => nomatch h.1
@[scoped simp] theorem keep_ol (xs : List D) (e1 : Env) (s0 s1 : Store) : keep (.ol xs) e e1 s0 s1 = e1 := if_neg fun h => nomatch h.1
@[scoped simp] theorem keep_loc (n : Nat) (e1 : Env) (s0 s1 : Store) : keep (.val (.loc n)) e e1 s0 s1 = e1 := if_neg fun h => nomatch h.1
theorem gc_self (m : M) : gc s m s = s := by unfold gc; split <;> rfl
theorem run_eq {P : Prog} {n : Nat} {f : String} {fn : Fn} {ds : List D} (h : look P f = some fn) (h1 : ds.length = fn.np) (h2 : fn.np ≤ fn.ns) : run P W (n + 1) f ds s = fin s (execs (run P W n) W fn.body (begun fn ds) s) := by
  show (match look P f with
    | some fn => if ds.length = fn.np ∧ fn.np ≤ fn.ns then fin s (execs (run P W n) W fn.body (begun fn ds) s) else .bad
    | none => .bad) = _
  rw [h]
  exact if_pos ⟨h1, h2⟩
@[scoped simp] theorem fin_ret (m : M) (s0 : Store) : fin s0 (.ok (.ret m) e s) = .ok m (gc s0 m s) := Eq.trans rfl rfl
@[scoped simp] theorem fin_nx (s0 : Store) : fin s0 (.ok .nx e s) = .ok (.val .non) (gc s0 (.val .non) s) := Eq.trans rfl rfl
/-- an object of the store, changed -/
def atL (o : Option Ent) (n : Nat) (f : M → Option M) (e : Env) (s : Store) : Res Flow :=
  match o with
  | some ⟨.lst xs, v⟩ => match f (.ol xs) with
    | some (.ol ys) => .ok .nx e (s.set n ⟨.lst ys, v + 1⟩)
    | _ => .bad
  | some ⟨.dic t kvs, v⟩ => match f (.od t kvs) with
    | some (.od u ys) => .ok .nx e (s.set n ⟨.dic u ys, v + 1⟩)
    | _ => .bad
  | _ => .bad
@[scoped simp] theorem at_loc (n : Nat) (sl : List Nat) (p : Pl) (f : M → Option M) (s1 : Store) : atK sl (.val (.loc n), p) s1 f e s = atL s[n]? n f e s := by
  unfold atK hold atL
  dsimp only
  have h1 : same (Pl.fsrc (.obj n)) s1 s = true := rfl
  rw [if_pos h1]
  unfold curr
  cases h : s[n]? with
  | none => simp only [h]
  | some en =>
    obtain ⟨o, v⟩ := en
    cases o with
    | ins k fs => simp only [h]
    | lst xs =>
      simp only [h]
      unfold pushPl
      cases f (.ol xs) with
      | none => rfl
      | some m =>
        unfold put
        simp only [h]
        cases m <;> rfl
    | dic t xs =>
      simp only [h]
      unfold pushPl
      cases f (.od t xs) with
      | none => rfl
      | some m =>
        unfold put
        simp only [h]
        cases m <;> rfl
@[scoped simp] theorem atL_lst (xs : List D) (v n : Nat) (f : M → Option M) : atL (some ⟨.lst xs, v⟩) n f e s = match f (.ol xs) with
    | some (.ol ys) => .ok .nx e (s.set n ⟨.lst ys, v + 1⟩)
    | _ => .bad := Eq.trans rfl rfl
@[scoped simp] theorem atL_dic (t : Bool) (xs : List (D × D)) (v n : Nat) (f : M → Option M) : atL (some ⟨.dic t xs, v⟩) n f e s = match f (.od t xs) with
    | some (.od u ys) => .ok .nx e (s.set n ⟨.dic u ys, v + 1⟩)
    | _ => .bad := Eq.trans rfl rfl
@[scoped simp] theorem setItem_ol (xs : List D) (i : Int) (d : D) : setItem (.ol xs) (.int i) d = (L2.ixN xs.length i).map fun j => .ol (xs.set j d) := Eq.trans rfl rfl
theorem at_slot {i : Nat} {m0 m m' : M} {sl : List Nat} {f : M → Option M} {s1 : Store} (h0 : m0.isVal = false) (hi : i ∈ sl) (h : e[i]? = some (some m)) (hf : f m = some m') : atK sl (m0, .slot i) s1 f e s = .ok .nx (e.set i (some m')) s := by
  have hh : hold sl m0 (.slot i) = some (.slot i) := by
    cases m0 with
    | val d => cases h0
    | ol xs => exact if_pos hi
    | od t kvs => exact if_pos hi
  unfold atK
  dsimp only
  rw [hh]
  dsimp only
  have h1 : same (Pl.fsrc (.slot i)) s1 s = true := rfl
  rw [if_pos h1]
  unfold curr
  simp only [h]
  unfold pushPl
  rw [hf]
  rfl
/-- what a slot's container becomes -/
def atS (o : Option (Option M)) (i : Nat) (f : M → Option M) (e : Env) (s : Store) : Res Flow :=
  match o with
  | some (some m) => match f m with
    | some m' => .ok .nx (e.set i (some m')) s
    | none => .bad
  | _ => .bad
theorem at_slotL {xs : List D} {i : Nat} {sl : List Nat} {f : M → Option M} {s1 : Store} : atK sl (.ol xs, .slot i) s1 f e s = if i ∈ sl then atS e[i]? i f e s else .bad := by
  have hh : hold sl (.ol xs) (.slot i) = if i ∈ sl then some (.slot i) else none := rfl
  unfold atK
  dsimp only
  rw [hh]
  by_cases hi : i ∈ sl
  · rw [if_pos hi, if_pos hi]
    dsimp only
    have h1 : same (Pl.fsrc (.slot i)) s1 s = true := rfl
    rw [if_pos h1]
    unfold curr atS
    dsimp only
    cases h : e[i]? with
    | none => rfl
    | some o =>
      cases o with
      | none => rfl
      | some m =>
        dsimp only
        unfold pushPl
        cases f m <;> rfl
  · rw [if_neg hi, if_neg hi]
    exact if_neg fun z => nomatch z.1
@[scoped simp] theorem at_slot' {xs : List D} {i : Nat} {sl : List Nat} {f : M → Option M} {s1 : Store} : atK sl (.ol xs, .slot i) s1 f e s = if i ∈ sl then atS e[i]? i f e s else .bad := at_slotL
@[scoped simp] theorem atS_some (m : M) (i : Nat) (f : M → Option M) : atS (some (some m)) i f e s = match f m with
    | some m' => .ok .nx (e.set i (some m')) s
    | none => .bad := Eq.trans rfl rfl
@[scoped simp] theorem slot_var (i : Nat) : IE.slot? (.var i) = [i] := Eq.trans rfl rfl
@[scoped simp] theorem mut0K_def (f : String) (sl : List Nat) (x : M × Pl) : mut0K f sl x e s = atK sl x s (mutate0 f) e s := Eq.trans rfl rfl
@[scoped simp] theorem mut1K_def (f : String) (sl : List Nat) (a : Env → Store → Res D) (x : M × Pl) : mut1K f sl a x e s = if kindOk f (bw x.1 x.2 s).1 then (a e s).bind fun d e2 s2 => atK sl x s (fun m => mutate1 f m d) e2 s2 else .bad := Eq.trans rfl rfl
@[scoped simp] theorem kind_app (xs : List D) : kindOk "append" (.ol xs) = true := Eq.trans rfl rfl
@[scoped simp] theorem kind_ext (xs : List D) : kindOk "extend" (.ol xs) = true := Eq.trans rfl rfl
@[scoped simp] theorem mut_app (xs : List D) (d : D) : mutate1 "append" (.ol xs) d = if xs.length < LIM then some (.ol (xs ++ [d])) else none := Eq.trans rfl rfl
@[scoped simp] theorem mut_ext (xs ys : List D) : mutate1 "extend" (.ol xs) (.lst ys) = if xs.length + ys.length ≤ LIM then some (.ol (xs ++ ys)) else none := Eq.trans rfl rfl
@[scoped simp] theorem mut_clear (xs : List D) : mutate0 "clear" (.ol xs) = some (.ol []) := Eq.trans rfl rfl
@[scoped simp] theorem mut_rev (xs : List D) : mutate0 "reverse" (.ol xs) = some (.ol xs.reverse) := Eq.trans rfl rfl
/-- a walk by its invariant -/
theorem forL_inv {src : List Src} {s0 : Store} {tg : Tg} {body : Env → Store → Res Flow} {Inv : Env → Store → Prop} (hs : ∀ e s, Inv e s → still src s0 s = true) : ∀ {l : List D} {e : Env} {s : Store}, (∀ x ∈ l, ∀ e s, Inv e s → ∃ e1 e2 s2, store tg (.val x) e = some e1 ∧ body e1 s = .ok .nx e2 s2 ∧ Inv e2 s2) → Inv e s →
    ∃ e' s', forL src s0 tg body l e s = .ok .nx e' s' ∧ Inv e' s'
  | [], e, s, _, h => ⟨e, s, if_pos (hs e s h), h⟩
  | x :: l, e, s, st, h => by
    obtain ⟨e1, e2, s2, h1, h2, h3⟩ := st x (List.mem_cons_self ..) e s h
    obtain ⟨e', s', h4, h5⟩ := forL_inv hs (fun y hy => st y (List.mem_cons_of_mem _ hy)) h3
    refine ⟨e', s', ?_, h5⟩
    rw [forL_cons, if_pos (hs e s h), h1]
    dsimp only
    rw [h2]
    exact h4
theorem whileL_succ (t : Env → Store → Res Bool) (b : Env → Store → Res Flow) (k : Nat) : whileL t b (k + 1) e s = (t e s).bind fun c e s => if c then (b e s).bind fun f e s => match f with
    | .nx => whileL t b k e s
    | .ret m => .ok (.ret m) e s
    else .ok .nx e s := Eq.trans rfl rfl
theorem lay_nil : (D.tup []).lay = true := rfl
theorem eqv_T0 (xs : List D) : eqv (.tup xs) (.tup []) = xs.isEmpty := by cases xs <;> rfl
theorem eq_T0 {xs : List D} (h : (D.tup xs).lay = true) : cmp .eq (.val (.tup xs)) (.val (.tup [])) = some xs.isEmpty := by
  show (if cmpOk (.tup xs) (.tup []) = true then some (eqv (.tup xs) (.tup [])) else none) = _
  have hk : cmpOk (.tup xs) (.tup []) = true := by
    unfold cmpOk
    rw [h, lay_nil, Bool.true_and, Bool.true_and]
    exact decide_eq_true (Nat.le_trans (Nat.min_le_right _ _) (show (D.tup []).deep ≤ 64 by decide))
  rw [if_pos hk, eqv_T0]
theorem ne_T0 {xs : List D} (h : (D.tup xs).lay = true) : cmp .ne (.val (.tup xs)) (.val (.tup [])) = some (!xs.isEmpty) := by
  show (cmp .eq (.val (.tup xs)) (.val (.tup []))).map _ = _
  rw [eq_T0 h]
  rfl
end
end OI.Y

/-! OIz: the laws' own helpers: the script's numbers drawn. -/
namespace OI.Y
open PySem (Str)
def fStart : Fn := ⟨1, 3, (.cons (.asg (.one 1) (.cst (.int 1)))
  (.cons (.fors (.one 2) (.of (.var 0)) (.cons (.asg (.one 1) (.bin .mod (.bin .add (.bin .add (.bin .mul (.var 1) (.cst (.int 48271))) (.var 2)) (.cst (.int 7))) (.cst (.int 2147483647))))
  .nil))
  (.cons (.ret (.share (.lst (.cons (.var 0) (.cons (.cst (.int 0)) (.cons (.var 1) (.cons (.cst (.int 0)) .nil)))))))
  .nil)))⟩
def fDrawn : Fn := ⟨2, 4, (.cons (.ifs (.cmp .gt (.idx (.var 0) (.cst (.int 3))) (.cst (.int 0))) (.cons (.asg (.one 2) (.bin .mod (.idx (.var 0) (.cst (.int 3))) (.var 1)))
  (.cons (.setI (.var 0) (.cst (.int 3)) (.bin .fdiv (.idx (.var 0) (.cst (.int 3))) (.var 1)))
  (.cons (.ret (.var 2))
  .nil))) .nil)
  (.cons (.setI (.var 0) (.cst (.int 1)) (.bin .add (.idx (.var 0) (.cst (.int 1))) (.cst (.int 1))))
  (.cons (.ifs (.cmp .le (.idx (.var 0) (.cst (.int 1))) (.bi1 "len" (.idx (.var 0) (.cst (.int 0))))) (.cons (.asg (.one 3) (.idx (.idx (.var 0) (.cst (.int 0))) (.bin .sub (.idx (.var 0) (.cst (.int 1))) (.cst (.int 1)))))
  (.cons (.setI (.var 0) (.cst (.int 3)) (.ife (.cmp .ge (.var 3) (.bin .pow (.cst (.int 10)) (.cst (.int 18)))) (.bin .fdiv (.var 3) (.var 1)) (.cst (.int 0))))
  (.cons (.ret (.bin .mod (.var 3) (.var 1)))
  .nil))) .nil)
  (.cons (.setI (.var 0) (.cst (.int 2)) (.bin .mod (.bin .add (.bin .mul (.idx (.var 0) (.cst (.int 2))) (.cst (.int 48271))) (.cst (.int 11))) (.cst (.int 2147483647))))
  (.cons (.ret (.bin .mod (.bin .fdiv (.idx (.var 0) (.cst (.int 2))) (.cst (.int 7))) (.var 1)))
  .nil)))))⟩
def fSame : Fn := ⟨2, 3, (.cons (.ifs (.isi (.var 1) false [.tup, .lst]) (.cons (.ifs (.either (.nott (.isi (.var 0) false [.tup, .lst])) (.cmp .ne (.isi (.var 0) true [.lst]) (.isi (.var 1) true [.lst]))) (.cons (.ret (.cst (.bl false)))
  .nil) .nil)
  (.cons (.ifs (.cmp .ne (.bi1 "len" (.var 0)) (.bi1 "len" (.var 1))) (.cons (.ret (.cst (.bl false)))
  .nil) .nil)
  (.cons (.ret (.cmp .eq (.lc (.var 2) (.one 2) (.rng1 (.bi1 "len" (.var 1))) (.yes (.nott (.call "_law_same" (.cons (.idx (.var 0) (.var 2)) (.cons (.idx (.var 1) (.var 2)) .nil))))) [2]) (.lst .nil)))
  .nil))) .nil)
  (.cons (.ifs (.isN false (.var 1)) (.cons (.ret (.isN false (.var 0)))
  .nil) .nil)
  (.cons (.ifs (.isi (.var 1) true [.str]) (.cons (.ret (.both (.isi (.var 0) true [.str]) (.cmp .eq (.var 0) (.var 1))))
  .nil) .nil)
  (.cons (.ifs (.either (.isi (.var 1) true [.bl]) (.isi (.var 0) true [.bl])) (.cons (.ret (.both (.isi (.var 1) true [.bl]) (.both (.isi (.var 0) true [.bl]) (.cmp .eq (.var 0) (.var 1)))))
  .nil) .nil)
  (.cons (.ret (.both (.isi (.var 0) true [.int]) (.cmp .eq (.var 0) (.var 1))))
  .nil)))))⟩
theorem gc_len {s s' : Store} {m : M} (h : s'.length ≤ s.length) : gc s m s' = s' := by
  unfold gc
  split
  · rename_i hg
    rw [← hg.1]
    exact List.take_of_length_le h
  · rfl
/-- the state of the drawing, at the store's first place -/
def St (ns : List Int) (s : Store) : Prop := ∃ (pos mixed rest : Int) (v : Nat), s[0]? = some ⟨.lst [.scr ns, .int pos, .int mixed, .int rest], v⟩ ∧ 0 ≤ pos
/-- only the drawing goes on -/
def Dr (ns : List Int) (s s' : Store) : Prop := St ns s' ∧ ∃ en, s' = s.set 0 en
section
variable {P : Prog} {W n : Nat} {s : Store} {ns : List Int}
theorem drawn_ok (hl : look P "_law_drawn" = some fDrawn) {many : Int} (h1 : 0 < many) (h2 : many < 2 ^ 200) (hs : St ns s) : ∃ k s', run P W (n + 1) "_law_drawn" [.loc 0, .int many] s = .ok (.val (.int k)) s' ∧ 0 ≤ k ∧ k < many ∧ Dr ns s s' := by
  obtain ⟨pos, mixed, rest, v, h0, hp⟩ := hs
  have hlt := (List.getElem?_eq_some_iff.mp h0).1
  rw [run_eq hl rfl (by decide)]
  have set0 : ∀ en : Ent, (s.set 0 en)[0]? = some en := fun en => List.getElem?_set_self hlt
  by_cases c1 : 0 < rest
  · refine ⟨rest % many, s.set 0 ⟨.lst [.scr ns, .int pos, .int mixed, .int (rest / many)], v + 1⟩, ?_, Int.emod_nonneg _ (by omega), Int.emod_lt_of_pos _ h1, ⟨pos, mixed, rest / many, v + 1, set0 _, hp⟩, _, rfl⟩
    simp [fDrawn, begun, h0, L2.ixN, c1, bin_modI h1, bin_fdivI h1 h2, gc_len]
  · by_cases c2 : pos + 1 ≤ ns.length
    · have hx : (ns.map D.int)[pos.toNat]? = some (.int ns[pos.toNat]) := by
        rw [List.getElem?_map, List.getElem?_eq_getElem (by omega)]
        rfl
      have hx2 : L2.atI (ns.map D.int) pos = some (.int ns[pos.toNat]) := by
        rw [atI_at (k := pos.toNat) (by omega) (by rw [List.length_map]; omega)]
        exact hx
      refine ⟨ns[pos.toNat] % many, s.set 0 ⟨.lst [.scr ns, .int (pos + 1), .int mixed, .int (if ns[pos.toNat] ≥ 10 ^ 18 then ns[pos.toNat] / many else 0)], v + 1 + 1⟩, ?_, Int.emod_nonneg _ (by omega), Int.emod_lt_of_pos _ h1, ⟨pos + 1, mixed, _, v + 1 + 1, set0 _, by omega⟩, _, rfl⟩
      by_cases c3 : (1000000000000000000 : Int) ≤ ns[pos.toNat]
      · simp [fDrawn, begun, h0, L2.ixN, c1, bin_modI h1, bin_fdivI h1 h2, gc_len, c2, c3, hx2, bin_powI, set0]
      · simp [fDrawn, begun, h0, L2.ixN, c1, bin_modI h1, bin_fdivI h1 h2, gc_len, c2, c3, hx2, bin_powI, set0]
    · refine ⟨(mixed * 48271 + 11) % 2147483647 / 7 % many, s.set 0 ⟨.lst [.scr ns, .int (pos + 1), .int ((mixed * 48271 + 11) % 2147483647), .int rest], v + 1 + 1⟩, ?_, Int.emod_nonneg _ (by omega), Int.emod_lt_of_pos _ h1, ⟨pos + 1, _, rest, v + 1 + 1, set0 _, by omega⟩, _, rfl⟩
      simp [fDrawn, begun, h0, L2.ixN, c1, bin_modI, h1, bin_fdivI, h2, gc_len, c2, bin_mulR, set0]
theorem start_loop (hx : Int) : ∀ (l : List Int) (m : Int) (o : Option M) (a : Option M), ∃ m' o', forL [] s (.one 2) (execs (run P W n) W (.cons (.asg (.one 1) (.bin .mod (.bin .add (.bin .add (.bin .mul (.var 1) (.cst (.int 48271))) (.var 2)) (.cst (.int 7))) (.cst (.int 2147483647)))) .nil)) (l.map .int) [a, some (.val (.int m)), o] s = .ok .nx [a, some (.val (.int m')), o'] s
  | [], m, o, a => ⟨m, o, by simp⟩
  | x :: l, m, o, a => by
    obtain ⟨m', o', h⟩ := start_loop hx l ((m * 48271 + x + 7) % 2147483647) (some (.val (.int x))) a
    refine ⟨m', o', ?_⟩
    rw [List.map_cons, forL_cons, ← h]
    simp [bin_mulR, bin_modI]
theorem start_ok (hl : look P "_law_start" = some fStart) : ∃ m, run P W (n + 1) "_law_start" [.scr ns] [] = .ok (.val (.loc 0)) [⟨.lst [.scr ns, .int 0, .int m, .int 0], 0⟩] := by
  rw [run_eq hl rfl (by decide)]
  obtain ⟨m', o', h⟩ := start_loop (P := P) (W := W) (n := n) (s := []) 0 ns 1 none (some (.val (.scr ns)))
  refine ⟨m', ?_⟩
  simp [fStart, begun, itK, wk, items, M.seq?, M.lst?]
  rw [h]
  simp [gc, M.locsLt, D.locsLt]

/-! ### _law_same, of equal things -/
mutual
/-- data of no objects, no greater than may be -/
def D.plain : D → Bool
  | .non => true
  | .bl _ => true
  | .int _ => true
  | .str _ => true
  | .tup xs => decide (xs.length ≤ LIM) && D.plains xs
  | .lst xs => decide (xs.length ≤ LIM) && D.plains xs
  | _ => false
def D.plains : List D → Bool
  | [] => true
  | x :: xs => D.plain x && D.plains xs
end
mutual
def D.tall : D → Nat
  | .tup xs => D.talls xs + 1
  | .lst xs => D.talls xs + 1
  | _ => 0
def D.talls : List D → Nat
  | [] => 0
  | x :: xs => max (D.tall x) (D.talls xs)
end
theorem plains_mem : ∀ {xs : List D} {x : D}, D.plains xs = true → x ∈ xs → D.plain x = true ∧ D.tall x ≤ D.talls xs
  | y :: xs, x, h, hm => by
    unfold D.plains at h
    rw [Bool.and_eq_true] at h
    unfold D.talls
    cases hm with
    | head => exact ⟨h.1, Nat.le_max_left _ _⟩
    | tail _ hm =>
      obtain ⟨h1, h2⟩ := plains_mem h.2 hm
      exact ⟨h1, Nat.le_trans h2 (Nat.le_max_right _ _)⟩
theorem rng_mem {j : Int} {x : D} (h : x ∈ rng 0 j) : ∃ k : Nat, x = .int k ∧ (k : Int) < j := by
  unfold rng at h
  obtain ⟨k, hk, e⟩ := List.mem_map.mp h
  rw [List.mem_range] at hk
  refine ⟨k, ?_, by omega⟩
  rw [← e, Int.zero_add]
theorem rng_len (i j : Int) : (rng i j).length = (j - i).toNat := by
  unfold rng
  rw [List.length_map, List.length_range]
theorem same_step (hl : look P "_law_same" = some fSame) (n : Nat) (ih : ∀ m, m + 1 = n → ∀ (x : D) (s : Store), D.plain x = true → D.tall x ≤ m → run P W (m + 1) "_law_same" [x, x] s = .ok (.val (.bl true)) s) (x : D) (s : Store) (hp : D.plain x = true) (ht : D.tall x ≤ n) : run P W (n + 1) "_law_same" [x, x] s = .ok (.val (.bl true)) s := by
  rw [run_eq hl rfl (by decide)]
  have seq : ∀ (xs : List D) (f : List D → D), x = f xs → (f = D.tup ∨ f = D.lst) → fin s (execs (run P W n) W fSame.body (begun fSame [x, x]) s) = .ok (.val (.bl true)) s := fun xs f hx hf => by
    have hpl : xs.length ≤ LIM ∧ D.plains xs = true ∧ D.talls xs + 1 ≤ n := by
      rcases hf with rfl | rfl
      · subst hx
        unfold D.plain at hp
        rw [Bool.and_eq_true, decide_eq_true_eq] at hp
        exact ⟨hp.1, hp.2, ht⟩
      · subst hx
        unfold D.plain at hp
        rw [Bool.and_eq_true, decide_eq_true_eq] at hp
        exact ⟨hp.1, hp.2, ht⟩
    obtain ⟨p1, p2, p3⟩ := hpl
    have hn : n = n - 1 + 1 := by omega
    have inner : ∀ k : Nat, (k : Int) < xs.length → ∃ y, L2.atI xs k = some y ∧ run P W n "_law_same" [y, y] s = .ok (.val (.bl true)) s := fun k hk => by
      have hk' : k < xs.length := by omega
      refine ⟨xs[k], by rw [atI_at (k := k) rfl hk']; exact List.getElem?_eq_getElem hk', ?_⟩
      obtain ⟨q1, q2⟩ := plains_mem p2 (List.getElem_mem hk')
      have := ih (n - 1) (by omega) xs[k] s q1 (by omega)
      rw [← hn] at this
      exact this
    rcases hf with rfl | rfl
    · subst hx
      simp [fSame, begun, getI_len p1, lcK, wipeOk, rng_len, p1, wipe]
      rw [lc_none (by simp) [] fun x hx => ?_]
      · simp [lcEnd, back, gc_self]
      · obtain ⟨k, rfl, hk⟩ := rng_mem hx
        obtain ⟨y, h1, h2⟩ := inner k hk
        refine ⟨_, [some (.val (.tup xs)), some (.val (.tup xs)), some (.val (.int k))], rfl, ?_, rfl⟩
        simp [h1, h2]
    · subst hx
      simp [fSame, begun, getI_len p1, lcK, wipeOk, rng_len, p1, wipe]
      rw [lc_none (by simp) [] fun x hx => ?_]
      · simp [lcEnd, back, gc_self]
      · obtain ⟨k, rfl, hk⟩ := rng_mem hx
        obtain ⟨y, h1, h2⟩ := inner k hk
        refine ⟨_, [some (.val (.lst xs)), some (.val (.lst xs)), some (.val (.int k))], rfl, ?_, rfl⟩
        simp [h1, h2]
  cases x with
  | tup xs => exact seq xs .tup rfl (.inl rfl)
  | lst xs => exact seq xs .lst rfl (.inr rfl)
  | non => simp [fSame, begun, gc_self]
  | bl b => simp [fSame, begun, gc_self]
  | int b => simp [fSame, begun, gc_self]
  | str b => simp [fSame, begun, gc_self]
  | _ => cases hp
theorem same_refl (hl : look P "_law_same" = some fSame) (n : Nat) : ∀ (x : D) (s : Store), D.plain x = true → D.tall x ≤ n → run P W (n + 1) "_law_same" [x, x] s = .ok (.val (.bl true)) s := by
  induction n with
  | zero => exact same_step hl 0 fun m hm => by cases hm
  | succ n ih => exact same_step hl (n + 1) fun m hm => by cases hm; exact ih
end
end OI.Y

/-! OIy2: more rules to reckon a run: objects, methods, texts, loops that end early. -/
namespace OI.Y
open PySem (Str)
theorem str_inj {a b : String} (h : Str.ofString a = Str.ofString b) : a = b := by
  rw [PySem.Str.ofString_eq_toList, PySem.Str.ofString_eq_toList] at h
  have h1 : a.toList.map Char.toNat = b.toList.map Char.toNat := by
    have := congrArg (fun z : Str => z.cps.toList) h
    simpa using this
  have h2 : a.toList = b.toList := by
    have inj : Function.Injective Char.toNat := fun x y e => Char.toNat_inj.mp e
    exact (List.map_inj_right (fun x y e => inj e)).mp h1
  exact String.ext h2
@[scoped simp] theorem str_eq (a b : String) : (Str.ofString a = Str.ofString b) = (a = b) := propext ⟨str_inj, fun h => by rw [h]⟩
section
variable {R : Runs} {W : Nat} {e : Env} {s : Store}
@[scoped simp] theorem ev_attr (a : IE) (f : String) : ev R (.attr a f) e s = (ev R a e s).bind (attrK f) := Eq.trans rfl rfl
@[scoped simp] theorem ev_meth (o : IE) (k m : String) (es : IEs) : ev R (.meth o k m es) e s = (ev R o e s).bind fun x => methK R k m x (evs R es) := Eq.trans rfl rfl
@[scoped simp] theorem ev_new (k : String) (es : IEs) : ev R (.new k es) e s = (evs R es e s).bind (newK R k) := Eq.trans rfl rfl
@[scoped simp] theorem ev_glob (x : String) (d : D) : ev R (.glob x d) e s = .ok (.val d, .tmp) e s := Eq.trans rfl rfl
@[scoped simp] theorem ev_chain (op op2 : COp) (a b c : IE) : ev R (.chain op op2 a b c) e s = two (ev R a) (ev R b) (fun x y => valK y (chainK (cmp op x y) (one (ev R c) fun z => outB (cmp op2 y z)))) e s := Eq.trans rfl rfl
@[scoped simp] theorem ev_chain3 (op op2 op3 : COp) (a b c d : IE) : ev R (.chain3 op op2 op3 a b c d) e s = two (ev R a) (ev R b) (fun x y => valK y (chainK (cmp op x y) (one (ev R c) fun z => valK z (chainK (cmp op2 y z) (one (ev R d) fun w => outB (cmp op3 z w)))))) e s := Eq.trans rfl rfl
@[scoped simp] theorem ev_lrange (a b : IE) : ev R (.lrange a b) e s = two (ev R a) (ev R b) lrangeK e s := Eq.trans rfl rfl
@[scoped simp] theorem ev_dct (t : Bool) (ps : IPs) : ev R (.dct t ps) e s = (evk R ps e s).bind (dctK t) := Eq.trans rfl rfl
@[scoped simp] theorem ev_bm1 (m : String) (o a : IE) : ev R (.bm1 m o a) e s = (ev R o e s).bind fun x e1 s1 => if bmOk m (bw x.1 x.2 s1).1 then (ev R a e1 s1).bind (bm1K m x s1) else .bad := Eq.trans rfl rfl
@[scoped simp] theorem ev_bm2 (m : String) (o a b : IE) : ev R (.bm2 m o a b) e s = (ev R o e s).bind fun x e1 s1 => if dkOk (bw x.1 x.2 s1).1 then (ev R a e1 s1).bind fun y e2 s2 => (ev R b e2 s2).bind (bm2K m x s1 y s2) else .bad := Eq.trans rfl rfl
@[scoped simp] theorem evk_nil : evk R .nil e s = .ok [] e s := Eq.trans rfl rfl
@[scoped simp] theorem evk_cons (a b : IE) (r : IPs) : evk R (.cons a b r) e s = (valD (ev R a) e s).bind fun k e s => (valD (ev R b) e s).bind fun v e s => (evk R r e s).bind fun ps e s => .ok ((k, v) :: ps) e s := Eq.trans rfl rfl
@[scoped simp] theorem evi_zip (a b : IE) : evi R (.zip a b) e s = (ev R a e s).bind fun x e1 s1 => (ev R b e1 s1).bind fun y => zipK x y s1 := Eq.trans rfl rfl
@[scoped simp] theorem rng2K_int (i j : Int) : rng2K (.val (.int i)) (.val (.int j)) e s = .ok (rng i j, []) e s := Eq.trans rfl rfl
/-! objects -/
def attrF (o : Option M) (n : Nat) (f : String) (e : Env) (s : Store) : Res (M × Pl) :=
  match o with
  | some m => .ok (m, .fld n f) e s
  | none => .bad
def attrL (o : Option Ent) (n : Nat) (f : String) (e : Env) (s : Store) : Res (M × Pl) :=
  match o with
  | some ⟨.ins _ fs, _⟩ => attrF (fldGet fs f) n f e s
  | _ => .bad
@[scoped simp] theorem attrK_loc (n : Nat) (p : Pl) (f : String) : attrK f (.val (.loc n), p) e s = attrL s[n]? n f e s := by
  first
  | (unfold attrK attrL attrF
     dsimp only
     done)
  | (unfold attrK attrL attrF
     dsimp only
     cases h : s[n]? with
     | none => simp only [h]
     | some en =>
       obtain ⟨o, v⟩ := en
       cases o <;> simp only [h]
       split <;> simp_all)
@[scoped simp] theorem attrL_ins (k : String) (fs : List (String × M)) (v n : Nat) (f : String) : attrL (some ⟨.ins k fs, v⟩) n f e s = attrF (fldGet fs f) n f e s := Eq.trans rfl rfl
@[scoped simp] theorem attrF_some (m : M) (n : Nat) (f : String) : attrF (some m) n f e s = .ok (m, .fld n f) e s := Eq.trans rfl rfl
@[scoped simp] theorem fldGet_nil (f : String) : fldGet [] f = none := Eq.trans rfl rfl
@[scoped simp] theorem fldGet_cons (a f : String) (m : M) (r : List (String × M)) : fldGet ((a, m) :: r) f = if a = f then some m else fldGet r f := by
  unfold fldGet
  rw [List.find?_cons]
  by_cases h : a = f
  · subst h; simp
  · have hb : (a == f) = false := beq_eq_false_iff_ne.mpr h
    simp [h, hb]
@[scoped simp] theorem fldPut_nil (f : String) (m : M) : fldPut [] f m = [(f, m)] := Eq.trans rfl rfl
@[scoped simp] theorem fldPut_cons (a f : String) (m m' : M) (r : List (String × M)) : fldPut ((a, m) :: r) f m' = if a = f then (a, m') :: r else (a, m) :: fldPut r f m' := by
  show (if a == f then (a, m') :: r else (a, m) :: fldPut r f m') = _
  by_cases h : a = f
  · subst h; simp
  · have hb : (a == f) = false := beq_eq_false_iff_ne.mpr h
    simp [h, hb]
@[scoped simp] theorem src_fld (n : Nat) (f : String) : Pl.src (.fld n f) = some n := Eq.trans rfl rfl
def methL (R : Runs) (o : Option Ent) (k m : String) (n : Nat) (as : Env → Store → Res (List D)) (e : Env) (s : Store) : Res (M × Pl) :=
  match o with
  | some ⟨.ins k' fs, _⟩ => if k' = k ∧ fldGet fs m = none then (as e s).bind fun ds => callK R (k ++ "." ++ m) (.loc n :: ds) else .bad
  | _ => .bad
@[scoped simp] theorem methK_loc (n : Nat) (p : Pl) (k m : String) (as : Env → Store → Res (List D)) : methK R k m (.val (.loc n), p) as e s = methL R s[n]? k m n as e s := by
  first
  | (unfold methK methL
     dsimp only
     done)
  | (unfold methK methL
     dsimp only
     cases h : s[n]? with
     | none => simp only [h]
     | some en =>
       obtain ⟨o, v⟩ := en
       cases o <;> simp only [h])
@[scoped simp] theorem methL_ins (k' : String) (fs : List (String × M)) (v n : Nat) (k m : String) (as : Env → Store → Res (List D)) : methL R (some ⟨.ins k' fs, v⟩) k m n as e s = if k' = k ∧ fldGet fs m = none then (as e s).bind fun ds => callK R (k ++ "." ++ m) (.loc n :: ds) else .bad := Eq.trans rfl rfl
@[scoped simp] theorem newK_def (k : String) (ds : List D) : newK R k ds e s = (ofRR (R (k ++ ".__init__") (.loc s.length :: ds) (s ++ [⟨.ins k [], 0⟩])) e).bind (newE s.length) := Eq.trans rfl rfl
@[scoped simp] theorem newE_non (n : Nat) : newE n (.val .non) e s = .ok (.val (.loc n), .tmp) e s := Eq.trans rfl rfl
@[scoped simp] theorem valK_val (d : D) (k : Env → Store → Res (M × Pl)) : valK (.val d) k e s = k e s := Eq.trans rfl rfl
@[scoped simp] theorem chainK_t (k : Env → Store → Res (M × Pl)) : chainK (some true) k e s = k e s := Eq.trans rfl rfl
@[scoped simp] theorem chainK_f (k : Env → Store → Res (M × Pl)) : chainK (some false) k e s = .ok (.val (.bl false), .tmp) e s := Eq.trans rfl rfl
theorem chainK_dec {p : Prop} [Decidable p] (k : Env → Store → Res (M × Pl)) : chainK (some (decide p)) k e s = if p then k e s else .ok (.val (.bl false), .tmp) e s := by
  by_cases h : p <;> simp [h]
@[scoped simp] theorem lrangeK_def (x y : M) : lrangeK x y e s = (getI x e s).bind fun i e s => (getI y e s).bind fun j e s => if rngOk (j - i) then .ok (.ol (rng i j), .tmp) e s else .bad := Eq.trans rfl rfl
@[scoped simp] theorem dctK_def (t : Bool) (qs : List (D × D)) : dctK t qs e s = if qs.all fun p => keyOk t p.1 then .ok (.od t (dmerge [] qs), .tmp) e s else .bad := Eq.trans rfl rfl
@[scoped simp] theorem bm1K_def (m : String) (x : M × Pl) (s1 : Store) (y : M × Pl) : bm1K m x s1 y e s = if same (bw x.1 x.2 s1).2 s1 s then out (bm1 m (bw x.1 x.2 s1).1 (bw y.1 y.2 s).1) e s else .bad := Eq.trans rfl rfl
@[scoped simp] theorem bm2K_def (m : String) (x : M × Pl) (s1 : Store) (y : M × Pl) (s2 : Store) (z : M × Pl) : bm2K m x s1 y s2 z e s = if same (bw x.1 x.2 s1).2 s1 s && same (bw y.1 y.2 s2).2 s2 s then out (bm2 m (bw x.1 x.2 s1).1 (bw y.1 y.2 s2).1 (bw z.1 z.2 s).1) e s else .bad := Eq.trans rfl rfl
@[scoped simp] theorem bmOk_idx (xs : List D) : bmOk "index" (.ol xs) = true := Eq.trans rfl rfl
@[scoped simp] theorem bmOk_idx' (xs : List D) : bmOk "index" (.val (.lst xs)) = true := Eq.trans rfl rfl
@[scoped simp] theorem bmOk_cnt (xs : List D) : bmOk "count" (.ol xs) = true := Eq.trans rfl rfl
@[scoped simp] theorem dkOk_od (kvs : List (D × D)) : dkOk (.od false kvs) = true := Eq.trans rfl rfl
@[scoped simp] theorem bm2_get (kvs : List (D × D)) (k d : D) : bm2 "get" (.od false kvs) (.val k) (.val d) = if keyOk false k then some (.val ((dget kvs k).getD d)) else none := Eq.trans rfl rfl
@[scoped simp] theorem zipK_def (x y : M × Pl) (s1 : Store) : zipK x y s1 e s = if still (wk x.1 x.2 s1).2 s1 s then (match pairs (wk x.1 x.2 s1).1 (wk y.1 y.2 s).1 with
    | some ps => .ok (ps, (wk x.1 x.2 s1).2 ++ (wk y.1 y.2 s).2) e s
    | none => .bad) else .bad := Eq.trans rfl rfl
/-! statements -/
@[scoped simp] theorem exec_rais (c : String) : exec R W (.rais c) e s = .err c e s := Eq.trans rfl rfl
@[scoped simp] theorem exec_expr (a : IE) : exec R W (.expr a) e s = (valM (ev R a) e s).bind fun _ e1 s1 => .ok .nx (if s1 = s then e else e1) s1 := Eq.trans rfl rfl
def setAL (o : Option Ent) (n : Nat) (f : String) (m : M) (e0 : Env) (s0 : Store) (e : Env) (s : Store) : Res Flow :=
  match o with
  | some ⟨.ins c fs, v⟩ => if fs.length < 900 then .ok .nx (keep m e0 e s0 s) (s.set n ⟨.ins c (fldPut fs f m), v + 1⟩) else .bad
  | _ => .bad
def setAK (f : String) (m : M) (e0 : Env) (s0 : Store) (x : M × Pl) (e : Env) (s : Store) : Res Flow :=
  match x.1 with
  | .val (.loc n) => setAL s[n]? n f m e0 s0 e s
  | _ => .bad
@[scoped simp] theorem exec_setA (o a : IE) (f : String) : exec R W (.setA o f a) e s = (valM (ev R a) e s).bind fun m e1 s1 => (ev R o e1 s1).bind (setAK f m e s) := Eq.trans rfl rfl
@[scoped simp] theorem setAK_loc (n : Nat) (p : Pl) (f : String) (m : M) (e0 : Env) (s0 : Store) : setAK f m e0 s0 (.val (.loc n), p) e s = setAL s[n]? n f m e0 s0 e s := Eq.trans rfl rfl
@[scoped simp] theorem setAL_ins (c : String) (fs : List (String × M)) (v n : Nat) (f : String) (m : M) (e0 : Env) (s0 : Store) : setAL (some ⟨.ins c fs, v⟩) n f m e0 s0 e s = if fs.length < 900 then .ok .nx (keep m e0 e s0 s) (s.set n ⟨.ins c (fldPut fs f m), v + 1⟩) else .bad := Eq.trans rfl rfl
/-- a field's container, changed -/
def atF (o : Option Ent) (n : Nat) (f : String) (g : M → Option M) (e : Env) (s : Store) : Res Flow :=
  match o with
  | some ⟨.ins c fs, v⟩ => match fldGet fs f with
    | some m => match g m with
      | some m' => .ok .nx e (s.set n ⟨.ins c (fldPut fs f m'), v + 1⟩)
      | none => .bad
    | none => .bad
  | _ => .bad
theorem at_fld {m0 : M} (h0 : m0.isVal = false) (n : Nat) (f : String) (sl : List Nat) (g : M → Option M) (s1 : Store) (hs : same (some n) s1 s = true) : atK sl (m0, .fld n f) s1 g e s = atF s[n]? n f g e s := by
  have hh : hold sl m0 (.fld n f) = some (.fld n f) := by
    cases m0 with
    | val d => cases h0
    | ol xs => rfl
    | od t kvs => rfl
  unfold atK
  dsimp only
  rw [hh]
  dsimp only
  have h1 : same (Pl.fsrc (.fld n f)) s1 s = true := hs
  rw [if_pos h1]
  unfold curr atF
  dsimp only
  cases h : s[n]? with
  | none => simp only [h]
  | some en =>
    obtain ⟨o, v⟩ := en
    cases o with
    | ins k fs =>
      simp only [h]
      cases h2 : fldGet fs f with
      | none => rfl
      | some m =>
        simp only [h2]
        unfold pushPl
        cases h3 : g m with
        | none => rfl
        | some m' =>
          simp only
          unfold put
          simp only [h]
    | lst xs => simp only [h]
    | dic t xs => simp only [h]
@[scoped simp] theorem at_fldL (xs : List D) (n : Nat) (f : String) (sl : List Nat) (g : M → Option M) : atK sl (.ol xs, .fld n f) s g e s = atF s[n]? n f g e s := at_fld rfl n f sl g s (same_self _ _)
@[scoped simp] theorem at_fldD (t : Bool) (xs : List (D × D)) (n : Nat) (f : String) (sl : List Nat) (g : M → Option M) : atK sl (.od t xs, .fld n f) s g e s = atF s[n]? n f g e s := at_fld rfl n f sl g s (same_self _ _)
@[scoped simp] theorem atF_ins (c : String) (fs : List (String × M)) (v n : Nat) (f : String) (g : M → Option M) : atF (some ⟨.ins c fs, v⟩) n f g e s = match fldGet fs f with
    | some m => match g m with
      | some m' => .ok .nx e (s.set n ⟨.ins c (fldPut fs f m'), v + 1⟩)
      | none => .bad
    | none => .bad := Eq.trans rfl rfl
@[scoped simp] theorem at_slotD {t : Bool} {xs : List (D × D)} {i : Nat} {sl : List Nat} {f : M → Option M} {s1 : Store} : atK sl (.od t xs, .slot i) s1 f e s = if i ∈ sl then atS e[i]? i f e s else .bad := by
  have hh : hold sl (.od t xs) (.slot i) = if i ∈ sl then some (.slot i) else none := rfl
  unfold atK
  dsimp only
  rw [hh]
  by_cases hi : i ∈ sl
  · rw [if_pos hi, if_pos hi]
    dsimp only
    have h1 : same (Pl.fsrc (.slot i)) s1 s = true := rfl
    rw [if_pos h1]
    unfold curr atS
    dsimp only
    cases h : e[i]? with
    | none => rfl
    | some o =>
      cases o with
      | none => rfl
      | some m =>
        dsimp only
        unfold pushPl
        cases f m <;> rfl
  · rw [if_neg hi, if_neg hi]
    exact if_neg fun z => nomatch z.1
@[scoped simp] theorem setItem_od (kvs : List (D × D)) (k d : D) : setItem (.od false kvs) k d = if keyOk false k ∧ kvs.length < LIM then some (.od false (dput kvs k d)) else none := Eq.trans rfl rfl
@[scoped simp] theorem slot_attr (a : IE) (f : String) : IE.slot? (.attr a f) = [] := Eq.trans rfl rfl
@[scoped simp] theorem slot_idx (a b : IE) : IE.slot? (.idx a b) = [] := Eq.trans rfl rfl
@[scoped simp] theorem keyOk_int (i : Int) : keyOk false (.int i) = true := Eq.trans rfl rfl
@[scoped simp] theorem keyOk_str (i : Str) : keyOk false (.str i) = true := Eq.trans rfl rfl
@[scoped simp] theorem dget_nil (k : D) : dget [] k = none := Eq.trans rfl rfl
@[scoped simp] theorem dget_cons (a d k : D) (r : List (D × D)) : dget ((a, d) :: r) k = if a = k then some d else dget r k := by
  unfold dget
  rw [List.find?_cons]
  by_cases h : a = k
  · subst h; simp
  · simp [h]
@[scoped simp] theorem index_od (t : Bool) (kvs : List (D × D)) (k : D) : index (.od t kvs) (.val k) = if keyOk t k then dget kvs k else none := Eq.trans rfl rfl
@[scoped simp] theorem isIn_od (t : Bool) (kvs : List (D × D)) (k : D) : cmp .isin (.val k) (.od t kvs) = if keyOk t k then some (dget kvs k).isSome else none := Eq.trans rfl rfl
@[scoped simp] theorem nin_od (t : Bool) (kvs : List (D × D)) (k : D) : cmp .nin (.val k) (.od t kvs) = (if keyOk t k then some (dget kvs k).isSome else none).map fun c => !c := Eq.trans rfl rfl
@[scoped simp] theorem vl_od (t : Bool) (xs : List (D × D)) (i : Nat) : vl (.od t xs) (.slot i) e s = .ok (.val (.dic t xs)) (e.set i (some (.val (.dic t xs)))) s := Eq.trans rfl rfl
@[scoped simp] theorem frz_od (t : Bool) (d : List (D × D)) : M.frz (.od t d) = .dic t d := Eq.trans rfl rfl
@[scoped simp] theorem keep_od (t : Bool) (xs : List (D × D)) (e1 : Env) (s0 s1 : Store) : keep (.od t xs) e e1 s0 s1 = e1 := if_neg fun h => nomatch h.1
@[scoped simp] theorem keep_int (i : Int) (e1 : Env) : keep (.val (.int i)) e e1 s s = e := if_pos ⟨rfl, rfl⟩
@[scoped simp] theorem keep_bl (i : Bool) (e1 : Env) : keep (.val (.bl i)) e e1 s s = e := if_pos ⟨rfl, rfl⟩
@[scoped simp] theorem keep_str (i : Str) (e1 : Env) : keep (.val (.str i)) e e1 s s = e := if_pos ⟨rfl, rfl⟩
@[scoped simp] theorem keep_non (e1 : Env) : keep (.val .non) e e1 s s = e := if_pos ⟨rfl, rfl⟩
@[scoped simp] theorem fin_err (c : String) (s0 : Store) : fin s0 (.err c e s) = .err c (gc s0 (.val .non) s) := Eq.trans rfl rfl
/-! walked -/
def wkK (o : Option Ent) (n : Nat) : M × List Src :=
  match o with
  | some ⟨.lst xs, _⟩ => (.ol xs, [.ent n])
  | some ⟨.dic t kvs, _⟩ => (.od t kvs, [.ent n])
  | _ => (.val (.loc n), [])
@[scoped simp] theorem wk_loc (n : Nat) (p : Pl) : wk (.val (.loc n)) p s = wkK s[n]? n := by
  unfold wk wkK
  dsimp only
  all_goals (split <;> simp_all)
@[scoped simp] theorem wkK_lst (xs : List D) (v n : Nat) : wkK (some ⟨.lst xs, v⟩) n = (.ol xs, [.ent n]) := Eq.trans rfl rfl
@[scoped simp] theorem wkK_dic (t : Bool) (xs : List (D × D)) (v n : Nat) : wkK (some ⟨.dic t xs, v⟩) n = (.od t xs, [.ent n]) := Eq.trans rfl rfl
@[scoped simp] theorem wk_lst (xs : List D) (p : Pl) : wk (.val (.lst xs)) p s = (.val (.lst xs), []) := Eq.trans rfl rfl
@[scoped simp] theorem wk_tup (xs : List D) (p : Pl) : wk (.val (.tup xs)) p s = (.val (.tup xs), []) := Eq.trans rfl rfl
@[scoped simp] theorem wk_str (x : Str) (p : Pl) : wk (.val (.str x)) p s = (.val (.str x), []) := Eq.trans rfl rfl
@[scoped simp] theorem wk_scr (x : List Int) (p : Pl) : wk (.val (.scr x)) p s = (.val (.scr x), []) := Eq.trans rfl rfl
@[scoped simp] theorem wk_ol (xs : List D) (p : Pl) : wk (.ol xs) p s = (.ol xs, p.walk) := Eq.trans rfl rfl
@[scoped simp] theorem walk_tmp : Pl.walk .tmp = [] := Eq.trans rfl rfl
@[scoped simp] theorem walk_slot (i : Nat) : Pl.walk (.slot i) = [.slot i] := Eq.trans rfl rfl
@[scoped simp] theorem walk_fld (n : Nat) (f : String) : Pl.walk (.fld n f) = [.ent n] := Eq.trans rfl rfl
@[scoped simp] theorem items_ol (xs : List D) : items (.ol xs) = some xs := Eq.trans rfl rfl
@[scoped simp] theorem items_lst (xs : List D) : items (.val (.lst xs)) = some xs := Eq.trans rfl rfl
@[scoped simp] theorem items_tup (xs : List D) : items (.val (.tup xs)) = some xs := Eq.trans rfl rfl
@[scoped simp] theorem items_str (x : Str) : items (.val (.str x)) = some (signs x) := Eq.trans rfl rfl
theorem itK_def (x : M × Pl) : itK x e s = match items (wk x.1 x.2 s).1 with
  | some xs => .ok (xs, (wk x.1 x.2 s).2) e s
  | none => .bad := Eq.trans rfl rfl
@[scoped simp] theorem itK_ol (xs : List D) (p : Pl) : itK (.ol xs, p) e s = .ok (xs, p.walk) e s := Eq.trans rfl rfl
@[scoped simp] theorem itK_lst (xs : List D) (p : Pl) : itK (.val (.lst xs), p) e s = .ok (xs, []) e s := Eq.trans rfl rfl
@[scoped simp] theorem itK_tup (xs : List D) (p : Pl) : itK (.val (.tup xs), p) e s = .ok (xs, []) e s := Eq.trans rfl rfl
@[scoped simp] theorem itK_str (x : Str) (p : Pl) : itK (.val (.str x), p) e s = .ok (signs x, []) e s := Eq.trans rfl rfl
theorem itK_loc {n v : Nat} {xs : List D} (p : Pl) (h : s[n]? = some ⟨.lst xs, v⟩) : itK (.val (.loc n), p) e s = .ok (xs, [.ent n]) e s := by
  rw [itK_def, wk_loc, h]
  rfl
/-! loops -/
theorem rng_nil {i j : Int} (h : j ≤ i) : rng i j = [] := by
  unfold rng
  rw [show (j - i).toNat = 0 by omega]
  rfl
theorem rng_cons {i j : Int} (h : i < j) : rng i j = .int i :: rng (i + 1) j := by
  unfold rng
  rw [show (j - i).toNat = (j - (i + 1)).toNat + 1 by omega, List.range_succ_eq_map, List.map_cons, List.map_map]
  congr 1
  · simp
  · apply List.map_congr_left
    intro k _
    simp
    omega
/-- a walk that may end early, at a thing that p tells -/
theorem forL_find {src : List Src} {s0 : Store} {tg : Tg} {body : Env → Store → Res Flow} {Inv : Env → Prop} {p : D → Bool} {r : D → M} (hs : still src s0 s = true) : ∀ {l : List D} {e : Env}, (∀ x ∈ l, ∀ e, Inv e → ∃ e1, store tg (.val x) e = some e1 ∧ ((p x = true ∧ ∃ e2, body e1 s = .ok (.ret (r x)) e2 s) ∨ (p x = false ∧ ∃ e2, body e1 s = .ok .nx e2 s ∧ Inv e2))) → Inv e →
    (∃ x e', l.find? p = some x ∧ forL src s0 tg body l e s = .ok (.ret (r x)) e' s) ∨ (∃ e', l.find? p = none ∧ forL src s0 tg body l e s = .ok .nx e' s ∧ Inv e')
  | [], e, _, h => .inr ⟨e, rfl, if_pos hs, h⟩
  | x :: l, e, st, h => by
    obtain ⟨e1, h1, h2⟩ := st x (List.mem_cons_self ..) e h
    rw [forL_cons, if_pos hs, h1, List.find?_cons]
    dsimp only
    rcases h2 with ⟨hp, e2, h2⟩ | ⟨hp, e2, h2, hi⟩
    · rw [hp, h2]
      exact .inl ⟨x, e2, rfl, rfl⟩
    · rw [hp, h2]
      exact forL_find hs (fun y hy => st y (List.mem_cons_of_mem _ hy)) hi
/-- a comprehension with a test -/
theorem lc_filter {src : List Src} {s0 : Store} {own : List Nat} {tg : Tg} {test : Env → Store → Res Bool} {elt : Env → Store → Res D} {p : D → Bool} {g : D → D} (hs : still src s0 s = true) : ∀ {l : List D} (acc : List D), (∀ x ∈ l, ∃ e1 e2, store tg (.val x) e = some e1 ∧ test e1 s = .ok (p x) e2 s ∧ (if p x = true then ∃ e3, elt e2 s = .ok (g x) e3 s ∧ wipe e3 own = e else wipe e2 own = e)) →
    lcL src s0 own tg test elt l acc e s = .ok (acc ++ (l.filter p).map g) e s
  | [], acc, _ => by
    rw [List.filter_nil, List.map_nil, List.append_nil]
    exact if_pos hs
  | x :: l, acc, h => by
    obtain ⟨e1, e2, h1, h2, h3⟩ := h x (List.mem_cons_self ..)
    have ih := fun acc => lc_filter (p := p) (g := g) (elt := elt) (test := test) (tg := tg) (own := own) hs (l := l) acc fun y hy => h y (List.mem_cons_of_mem _ hy)
    unfold lcL
    rw [if_pos hs, h1]
    dsimp only
    rw [h2, List.filter_cons]
    simp only [quiet_ok', bind_ok]
    cases hp : p x with
    | true =>
      rw [hp, if_pos rfl] at h3
      obtain ⟨e3, h3, h4⟩ := h3
      simp only [if_true, h3, quiet_ok', bind_ok, h4]
      rw [ih, List.map_cons, List.append_assoc]
      rfl
    | false =>
      rw [hp] at h3
      simp only [Bool.false_eq_true, if_false] at h3 ⊢
      rw [h3, ih]
/-! equality with an empty list -/
theorem lay_ints (ns : List Int) : (D.lst (ns.map .int)).lay = true := by
  show (toPy (.lst (ns.map .int))).canLay0 = true
  unfold toPy PySem.PyData.canLay0
  induction ns with
  | nil => rfl
  | cons n ns ih => simp only [List.map_cons, toPys, toPy, PySem.PyData.canLayAll0, PySem.PyData.canLay0, ih, Bool.and_self]
theorem lay_strs : ∀ {ns : List Str}, (∀ n ∈ ns, (D.str n).lay = true) → (D.lst (ns.map .str)).lay = true
  | [], _ => rfl
  | n :: ns, h => by
    have h1 : (toPy (.str n)).canLay0 = true := h n (List.mem_cons_self ..)
    have h2 : (toPy (.lst (ns.map .str))).canLay0 = true := lay_strs fun m hm => h m (List.mem_cons_of_mem _ hm)
    show (toPy (.lst ((n :: ns).map .str))).canLay0 = true
    unfold toPy PySem.PyData.canLay0 at h2 ⊢
    simp only [List.map_cons, toPys, PySem.PyData.canLayAll0, h1, h2, Bool.and_self]
theorem eqv_L0 (xs : List D) : eqv (.lst xs) (.lst []) = xs.isEmpty := by cases xs <;> rfl
theorem eq_L0 {a : M} {xs : List D} (ha : a.frz = .lst xs) (h : (D.lst xs).lay = true) : cmp .eq a (.ol []) = some xs.isEmpty := by
  show eqB a.frz (.lst []) = _
  rw [ha]
  show (if cmpOk (.lst xs) (.lst []) = true then some (eqv (.lst xs) (.lst [])) else none) = _
  have hk : cmpOk (.lst xs) (.lst []) = true := by
    unfold cmpOk
    rw [h, show (D.lst []).lay = true from rfl, Bool.true_and, Bool.true_and]
    exact decide_eq_true (Nat.le_trans (Nat.min_le_right _ _) (show (D.lst []).deep ≤ 64 by decide))
  rw [if_pos hk, eqv_L0]
theorem ne_L0 {a : M} {xs : List D} (ha : a.frz = .lst xs) (h : (D.lst xs).lay = true) : cmp .ne a (.ol []) = some (!xs.isEmpty) := by
  show (cmp .eq a (.ol [])).map _ = _
  rw [eq_L0 ha h]
  rfl
end
end OI.Y

/-! OF1: the office: how it lies in the store; its methods reckoned. -/
namespace OI.Y
open PySem (Str)
def F_Desk_init : Fn := ⟨1, 1, (.cons (.setA (.var 0) "lying" (.lst .nil))
  (.cons (.setA (.var 0) "goes" (.cst (.bl true)))
  (.cons (.setA (.var 0) "low" (.cst .non))
  .nil)))⟩
def F_Office_init : Fn := ⟨3, 4, (.cons (.ifs (.either (.nott (.chain .le .le (.cst (.int 1)) (.var 1) (.glob "MOST_TOP" (.int 400)))) (.nott (.chain .le .le (.cst (.int 1)) (.var 2) (.glob "MOST_DESKS" (.int 6))))) (.cons (.rais "NoOffice")
  .nil) .nil)
  (.cons (.setA (.var 0) "top" (.var 1))
  (.cons (.setA (.var 0) "desks" (.lc (.new "Desk" .nil) (.one 3) (.rng1 (.var 2)) .no [3]))
  (.cons (.setA (.var 0) "words" (.dct false .nil))
  (.cons (.setA (.var 0) "seen" (.dct false .nil))
  .nil)))))⟩
def F_Office_desk_of : Fn := ⟨2, 2, (.cons (.ifs (.nott (.chain .le .lt (.cst (.int 0)) (.var 1) (.bi1 "len" (.attr (.var 0) "desks")))) (.cons (.rais "NoDesk")
  .nil) .nil)
  (.cons (.ret (.idx (.attr (.var 0) "desks") (.var 1)))
  .nil))⟩
def F_Office_going : Fn := ⟨2, 3, (.cons (.asg (.one 2) (.meth (.var 0) "Office" "desk_of" (.cons (.var 1) .nil)))
  (.cons (.ifs (.nott (.attr (.var 2) "goes")) (.cons (.rais "Stopped")
  .nil) .nil)
  (.cons (.ret (.var 2))
  .nil)))⟩
def F_Office_need_number : Fn := ⟨2, 2, (.cons (.ifs (.nott (.chain .le .le (.cst (.int 1)) (.var 1) (.attr (.var 0) "top"))) (.cons (.rais "NoNumber")
  .nil) .nil)
  .nil)⟩
def F_Office_holder : Fn := ⟨2, 3, (.cons (.fors (.one 2) (.rng1 (.bi1 "len" (.attr (.var 0) "desks"))) (.cons (.ifs (.cmp .isin (.var 1) (.attr (.idx (.attr (.var 0) "desks") (.var 2)) "lying")) (.cons (.ret (.var 2))
  .nil) .nil)
  .nil))
  (.cons (.ret (.cst .non))
  .nil))⟩
def F_Office_is_free : Fn := ⟨2, 2, (.cons (.ret (.both (.cmp .nin (.var 1) (.attr (.var 0) "words")) (.isN false (.meth (.var 0) "Office" "holder" (.cons (.var 1) .nil)))))
  .nil)⟩
def F_Office_lend : Fn := ⟨3, 6, (.cons (.asg (.one 3) (.meth (.var 0) "Office" "going" (.cons (.var 1) .nil)))
  (.cons (.ifs (.cmp .lt (.var 2) (.cst (.int 1))) (.cons (.rais "NoCount")
  .nil) .nil)
  (.cons (.asg (.one 4) (.cst (.int 0)))
  (.cons (.fors (.one 5) (.rng2 (.cst (.int 1)) (.bin .add (.attr (.var 0) "top") (.cst (.int 1)))) (.cons (.asg (.one 4) (.ife (.meth (.var 0) "Office" "is_free" (.cons (.var 5) .nil)) (.bin .add (.var 4) (.cst (.int 1))) (.cst (.int 0))))
  (.cons (.ifs (.cmp .eq (.var 4) (.var 2)) (.cons (.mut1 "extend" (.attr (.var 3) "lying") (.lrange (.bin .add (.bin .sub (.var 5) (.var 2)) (.cst (.int 1))) (.bin .add (.var 5) (.cst (.int 1)))))
  (.cons (.ret (.tup (.cons (.bin .add (.bin .sub (.var 5) (.var 2)) (.cst (.int 1))) (.cons (.var 5) .nil))))
  .nil)) .nil)
  .nil)))
  (.cons (.rais "NoRoom")
  .nil)))))⟩
def F_Office_report : Fn := ⟨3, 7, (.cons (.asg (.one 3) (.meth (.var 0) "Office" "going" (.cons (.var 1) .nil)))
  (.cons (.ifs (.cmp .ne (.lc (.var 4) (.one 4) (.of (.var 2)) (.yes (.cmp .nin (.var 4) (.glob "WORDS" (.tup [.str "paper", .str "spoilt"])))) [4]) (.lst .nil)) (.cons (.rais "NoWord")
  .nil) .nil)
  (.cons (.ifs (.cmp .gt (.bi1 "len" (.var 2)) (.bi1 "len" (.attr (.var 3) "lying"))) (.cons (.rais "Short")
  .nil) .nil)
  (.cons (.asg (.one 5) (.slc (.attr (.var 3) "lying") .no (.yes (.bi1 "len" (.var 2)))))
  (.cons (.fors (.many [6, 4]) (.zip (.var 5) (.var 2)) (.cons (.setI (.attr (.var 0) "words") (.var 6) (.var 4))
  .nil))
  (.cons (.setA (.var 3) "lying" (.slc (.attr (.var 3) "lying") (.yes (.bi1 "len" (.var 2))) .no))
  (.cons (.ret (.var 5))
  .nil)))))))⟩
def F_Office_back : Fn := ⟨2, 4, (.cons (.asg (.one 2) (.meth (.var 0) "Office" "going" (.cons (.var 1) .nil)))
  (.cons (.asg (.one 3) (.bi1 "sorted" (.attr (.var 2) "lying")))
  (.cons (.setA (.var 2) "lying" (.lst .nil))
  (.cons (.ret (.var 3))
  .nil))))⟩
def F_Office_stop : Fn := ⟨2, 3, (.cons (.asg (.one 2) (.meth (.var 0) "Office" "going" (.cons (.var 1) .nil)))
  (.cons (.setA (.var 2) "goes" (.cst (.bl false)))
  (.cons (.setA (.var 2) "low" (.cst (.int 0)))
  (.cons (.ret (.bi1 "list" (.attr (.var 2) "lying")))
  .nil))))⟩
def F_Office_found : Fn := ⟨2, 4, (.cons (.expr (.meth (.var 0) "Office" "need_number" (.cons (.var 1) .nil)))
  (.cons (.ifs (.either (.cmp .isin (.var 1) (.attr (.var 0) "seen")) (.cmp .eq (.bm2 "get" (.attr (.var 0) "words") (.var 1) (.cst (.str ""))) (.cst (.str "paper")))) (.cons (.rais "Twice")
  .nil) .nil)
  (.cons (.asg (.one 2) (.meth (.var 0) "Office" "holder" (.cons (.var 1) .nil)))
  (.cons (.ifs (.either (.isN false (.var 2)) (.attr (.idx (.attr (.var 0) "desks") (.var 2)) "goes")) (.cons (.rais "NotThere")
  .nil) .nil)
  (.cons (.asg (.one 3) (.idx (.attr (.var 0) "desks") (.var 2)))
  (.cons (.setA (.var 3) "low" (.bi2 "max" (.attr (.var 3) "low") (.bin .add (.bm1 "index" (.attr (.var 3) "lying") (.var 1)) (.cst (.int 1)))))
  (.cons (.setI (.attr (.var 0) "seen") (.var 1) (.cst (.bl true)))
  .nil)))))))⟩
def F_Office_settle : Fn := ⟨3, 6, (.cons (.asg (.one 3) (.meth (.var 0) "Office" "desk_of" (.cons (.var 1) .nil)))
  (.cons (.ifs (.isN false (.attr (.var 3) "low")) (.cons (.rais "NotThere")
  .nil) .nil)
  (.cons (.ifs (.either (.cmp .lt (.var 2) (.attr (.var 3) "low")) (.cmp .gt (.var 2) (.bi1 "len" (.attr (.var 3) "lying")))) (.cons (.rais "NoCount")
  .nil) .nil)
  (.cons (.fors (.one 4) (.of (.slc (.attr (.var 3) "lying") .no (.yes (.var 2)))) (.cons (.setI (.attr (.var 0) "words") (.var 4) (.ife (.cmp .isin (.var 4) (.attr (.var 0) "seen")) (.cst (.str "paper")) (.cst (.str "used"))))
  .nil))
  (.cons (.asg (.one 5) (.bi1 "sorted" (.slc (.attr (.var 3) "lying") (.yes (.var 2)) .no)))
  (.cons (.setA (.var 3) "lying" (.lst .nil))
  (.cons (.setA (.var 3) "low" (.cst .non))
  (.cons (.ret (.var 5))
  .nil))))))))⟩
def F_Office_open_numbers : Fn := ⟨2, 3, (.cons (.asg (.one 2) (.meth (.var 0) "Office" "desk_of" (.cons (.var 1) .nil)))
  (.cons (.ret (.ife (.attr (.var 2) "goes") (.bi1 "list" (.attr (.var 2) "lying")) (.lst .nil)))
  .nil))⟩
def F_Office_rest : Fn := ⟨2, 3, (.cons (.asg (.one 2) (.meth (.var 0) "Office" "desk_of" (.cons (.var 1) .nil)))
  (.cons (.ret (.ife (.attr (.var 2) "goes") (.lst .nil) (.bi1 "list" (.attr (.var 2) "lying"))))
  .nil))⟩
/-- a desk, an office, as plain things -/
structure Dsk where
  lying : List Int
  goes : Bool
  low : Option Int
structure Off where
  top : Int
  dsk : List Dsk
  words : List (Int × Str)
  seen : List Int
def lowD : Option Int → D
  | none => .non
  | some i => .int i
def wD (ws : List (Int × Str)) : List (D × D) := ws.map fun p => (.int p.1, .str p.2)
def sD (ns : List Int) : List (D × D) := ns.map fun n => (.int n, .bl true)
def wget : List (Int × Str) → Int → Option Str
  | [], _ => none
  | (a, w) :: r, n => if a = n then some w else wget r n
def wput (ws : List (Int × Str)) (n : Int) (w : Str) : List (Int × Str) := if (ws.any fun p => decide (p.1 = n)) = true then ws.map (fun p => if p.1 = n then (p.1, w) else p) else ws ++ [(n, w)]
def sput (ns : List Int) (n : Int) : List Int := if n ∈ ns then ns else ns ++ [n]
@[scoped simp] theorem dget_wD (n : Int) : ∀ ws : List (Int × Str), dget (wD ws) (.int n) = (wget ws n).map .str
  | [] => rfl
  | (a, w) :: r => by
    show dget ((.int a, .str w) :: wD r) (.int n) = _
    rw [dget_cons, dget_wD n r]
    show _ = Option.map D.str (if a = n then some w else wget r n)
    by_cases h : a = n
    · rw [if_pos (by rw [h]), if_pos h]; rfl
    · rw [if_neg (by intro z; cases z; exact h rfl), if_neg h]
@[scoped simp] theorem dget_sD (n : Int) : ∀ ns : List Int, dget (sD ns) (.int n) = if n ∈ ns then some (.bl true) else none
  | [] => rfl
  | a :: r => by
    show dget ((.int a, .bl true) :: sD r) (.int n) = _
    rw [dget_cons, dget_sD n r]
    by_cases h : a = n
    · subst h; simp
    · rw [if_neg (by intro z; cases z; exact h rfl)]
      simp [h, Ne.symm h]
theorem any_wD (n : Int) (ws : List (Int × Str)) : ((wD ws).any fun p => decide (p.1 = .int n)) = (ws.any fun p => decide (p.1 = n)) := by
  unfold wD
  rw [List.any_map]
  congr 1
  funext p
  show decide (D.int p.1 = .int n) = _
  rw [decide_eq_decide]
  exact ⟨fun h => by cases h; rfl, fun h => by rw [h]⟩
@[scoped simp] theorem dput_wD (ws : List (Int × Str)) (n : Int) (w : Str) : dput (wD ws) (.int n) (.str w) = wD (wput ws n w) := by
  unfold dput wput
  rw [any_wD]
  split
  · unfold wD
    rw [List.map_map, List.map_map]
    apply List.map_congr_left
    intro p _
    show (if D.int p.1 = .int n then (D.int p.1, D.str w) else (D.int p.1, D.str p.2)) = _
    by_cases h : p.1 = n
    · rw [if_pos (by rw [h])]
      simp [h]
    · rw [if_neg (by intro z; cases z; exact h rfl)]
      simp [h]
  · unfold wD
    rw [List.map_append]
    rfl
theorem any_sD (n : Int) (ns : List Int) : ((sD ns).any fun p => decide (p.1 = .int n)) = decide (n ∈ ns) := by
  unfold sD
  rw [List.any_map]
  induction ns with
  | nil => rfl
  | cons a r ih =>
    rw [List.any_cons, ih]
    show (decide (D.int a = .int n) || _) = _
    by_cases h : a = n
    · subst h; simp
    · have : ¬ (D.int a = .int n) := by intro z; cases z; exact h rfl
      simp [this, Ne.symm h]
@[scoped simp] theorem dput_sD (ns : List Int) (n : Int) : dput (sD ns) (.int n) (.bl true) = sD (sput ns n) := by
  unfold dput sput
  rw [any_sD]
  by_cases h : n ∈ ns
  · rw [if_pos (by simpa using h), if_pos h]
    unfold sD
    rw [List.map_map]
    apply List.map_congr_left
    intro p _
    show (if D.int p = .int n then (D.int p, D.bl true) else (D.int p, D.bl true)) = _
    split <;> rfl
  · rw [if_neg (by simpa using h), if_neg h]
    unfold sD
    rw [List.map_append]
    rfl
theorem wD_len (ws : List (Int × Str)) : (wD ws).length = ws.length := by unfold wD; rw [List.length_map]
theorem sD_len (ws : List Int) : (sD ws).length = ws.length := by unfold sD; rw [List.length_map]
theorem wput_len (ws : List (Int × Str)) (n : Int) (w : Str) : (wput ws n w).length ≤ ws.length + 1 := by
  unfold wput
  split
  · rw [List.length_map]; omega
  · rw [List.length_append]; simp
theorem sput_len (ws : List Int) (n : Int) : (sput ws n).length ≤ ws.length + 1 := by
  unfold sput
  split
  · omega
  · rw [List.length_append]; simp

def deskF (k : Dsk) : List (String × M) := [("lying", .ol (k.lying.map .int)), ("goes", .val (.bl k.goes)), ("low", .val (lowD k.low))]
def offF (X : Off) (dl : List Nat) : List (String × M) := [("top", .val (.int X.top)), ("desks", .ol (dl.map .loc)), ("words", .od false (wD X.words)), ("seen", .od false (sD X.seen))]
/-- an office lies at o, its desks at dl -/
structure OffAt (o : Nat) (dl : List Nat) (X : Off) (s : Store) : Prop where
  off : ∃ v, s[o]? = some ⟨.ins "Office" (offF X dl), v⟩
  len : dl.length = X.dsk.length
  dsk : ∀ (j d : Nat) (k : Dsk), dl[j]? = some d → X.dsk[j]? = some k → ∃ v, s[d]? = some ⟨.ins "Desk" (deskF k), v⟩
  nd : dl.Nodup
  ne : o ∉ dl
/-- nothing but what lies at L was changed -/
def Fix (L : List Nat) (s s' : Store) : Prop := s'.length = s.length ∧ ∀ n, n ∉ L → s'[n]? = s[n]?
theorem Fix.refl (L : List Nat) (s : Store) : Fix L s s := ⟨rfl, fun _ _ => rfl⟩
theorem Fix.trans {L : List Nat} {s s1 s2 : Store} (a : Fix L s s1) (b : Fix L s1 s2) : Fix L s s2 := ⟨b.1.trans a.1, fun n h => (b.2 n h).trans (a.2 n h)⟩
theorem Fix.mono {L L' : List Nat} {s s1 : Store} (a : Fix L s s1) (h : ∀ x ∈ L, x ∈ L') : Fix L' s s1 := ⟨a.1, fun n hn => a.2 n fun z => hn (h n z)⟩
theorem Fix.set {L : List Nat} {s : Store} {n : Nat} {en : Ent} (h : n ∈ L) : Fix L s (s.set n en) := ⟨List.length_set, fun m hm => List.getElem?_set_ne (by intro z; subst z; exact hm h)⟩
theorem OffAt.fix {o : Nat} {dl : List Nat} {X : Off} {s s' : Store} {L : List Nat} (A : OffAt o dl X s) (f : Fix L s s') (h : ∀ n ∈ o :: dl, n ∉ L) : OffAt o dl X s' where
  off := by rw [f.2 o (h o (List.mem_cons_self ..))]; exact A.off
  len := A.len
  dsk := fun j d k h1 h2 => by
    rw [f.2 d (h d (List.mem_cons_of_mem _ (List.mem_of_getElem? h1)))]
    exact A.dsk j d k h1 h2
  nd := A.nd
  ne := A.ne
def Off.setD (X : Off) (j : Nat) (k : Dsk) : Off := { X with dsk := X.dsk.set j k }
/-- a desk is changed -/
theorem OffAt.setDesk {o : Nat} {dl : List Nat} {X : Off} {s : Store} (A : OffAt o dl X s) {j d : Nat} (hj : dl[j]? = some d) (k : Dsk) (v : Nat) : OffAt o dl (X.setD j k) (s.set d ⟨.ins "Desk" (deskF k), v⟩) where
  off := by
    have hne : d ≠ o := fun z => A.ne (z ▸ List.mem_of_getElem? hj)
    rw [List.getElem?_set_ne hne]
    exact A.off
  len := by
    show _ = (X.dsk.set j k).length
    rw [List.length_set]; exact A.len
  dsk := fun j' d' k' h1 h2 => by
    have h2 : (X.dsk.set j k)[j']? = some k' := h2
    have hjl := (List.getElem?_eq_some_iff.mp hj).1
    by_cases z : j = j'
    · subst z
      rw [hj] at h1
      cases h1
      rw [List.getElem?_set_self (by rw [← A.len]; exact hjl)] at h2
      cases h2
      obtain ⟨k0, hk0⟩ : ∃ k0, X.dsk[j]? = some k0 := ⟨_, List.getElem?_eq_getElem (by rw [← A.len]; exact hjl)⟩
      obtain ⟨w, hw⟩ := A.dsk j d k0 hj hk0
      exact ⟨v, List.getElem?_set_self (List.getElem?_eq_some_iff.mp hw).1⟩
    · rw [List.getElem?_set_ne z] at h2
      have hdd : d ≠ d' := fun w => z ((List.getElem?_inj hjl A.nd).mp (by rw [hj, h1, w]))
      rw [List.getElem?_set_ne hdd]
      exact A.dsk j' d' k' h1 h2
  nd := A.nd
  ne := A.ne
/-- the office's own fields are changed -/
theorem OffAt.setOff {o : Nat} {dl : List Nat} {X : Off} {s : Store} (A : OffAt o dl X s) {X' : Off} (hd : X'.dsk = X.dsk) (v : Nat) : OffAt o dl X' (s.set o ⟨.ins "Office" (offF X' dl), v⟩) where
  off := by
    obtain ⟨w, hw⟩ := A.off
    exact ⟨v, List.getElem?_set_self (List.getElem?_eq_some_iff.mp hw).1⟩
  len := by rw [hd]; exact A.len
  dsk := fun j d k h1 h2 => by
    have hne : o ≠ d := fun z => A.ne (z ▸ List.mem_of_getElem? h1)
    rw [List.getElem?_set_ne hne]
    rw [hd] at h2
    exact A.dsk j d k h1 h2
  nd := A.nd
  ne := A.ne
theorem OffAt.at_ {o : Nat} {dl : List Nat} {X : Off} {s : Store} (A : OffAt o dl X s) {j : Nat} {k : Dsk} (h : X.dsk[j]? = some k) : ∃ d v, dl[j]? = some d ∧ s[d]? = some ⟨.ins "Desk" (deskF k), v⟩ ∧ L2.atI (dl.map D.loc) (j : Int) = some (.loc d) := by
  have hl := (List.getElem?_eq_some_iff.mp h).1
  have hj : j < dl.length := by rw [A.len]; exact hl
  obtain ⟨v, hv⟩ := A.dsk j dl[j] k (List.getElem?_eq_getElem hj) h
  refine ⟨dl[j], v, List.getElem?_eq_getElem hj, hv, ?_⟩
  rw [atI_at (k := j) rfl (by rw [List.length_map]; exact hj), List.getElem?_map, List.getElem?_eq_getElem hj]
  rfl
/-- the number of a desk that there is -/
def Off.is (X : Off) (desk : Int) : Prop := 0 ≤ desk ∧ desk < X.dsk.length
section
variable {P : Prog} {W n : Nat} {s : Store} {o : Nat} {dl : List Nat} {X : Off}
theorem desk_of_no (hl : look P "Office.desk_of" = some F_Office_desk_of) (A : OffAt o dl X s) {desk : Int} (h : ¬ X.is desk) : run P W (n + 1) "Office.desk_of" [.loc o, .int desk] s = .err "NoDesk" s := by
  obtain ⟨v, hv⟩ := A.off
  have hlen := A.len
  rw [run_eq hl rfl (by decide)]
  unfold Off.is at h
  simp [F_Office_desk_of, begun, hv, offF, chainK_dec, hlen]
  by_cases h0 : 0 ≤ desk
  · have h1 : ¬ desk < X.dsk.length := fun z => h ⟨h0, z⟩
    simp [h0, h1, gc_self]
  · simp [h0, gc_self]
theorem desk_of_ok (hl : look P "Office.desk_of" = some F_Office_desk_of) (A : OffAt o dl X s) {j d : Nat} (hj : dl[j]? = some d) : run P W (n + 1) "Office.desk_of" [.loc o, .int j] s = .ok (.val (.loc d)) s := by
  obtain ⟨v, hv⟩ := A.off
  have hlt := (List.getElem?_eq_some_iff.mp hj).1
  have hx : L2.atI (dl.map D.loc) (j : Int) = some (.loc d) := by
    rw [atI_at (k := j) rfl (by rw [List.length_map]; exact hlt), List.getElem?_map, hj]
    rfl
  rw [run_eq hl rfl (by decide)]
  simp [F_Office_desk_of, begun, hv, offF, chainK_dec, hlt, hx, gc_self]
theorem going_no (hl : look P "Office.desk_of" = some F_Office_desk_of) (hl2 : look P "Office.going" = some F_Office_going) (A : OffAt o dl X s) {desk : Int} (h : ¬ X.is desk) : run P W (n + 2) "Office.going" [.loc o, .int desk] s = .err "NoDesk" s := by
  obtain ⟨v, hv⟩ := A.off
  have h1 := desk_of_no (W := W) (n := n) hl A h
  rw [run_eq hl2 rfl (by decide)]
  simp [F_Office_going, begun, hv, offF, h1, gc_self]
theorem going_stop (hl : look P "Office.desk_of" = some F_Office_desk_of) (hl2 : look P "Office.going" = some F_Office_going) (A : OffAt o dl X s) {j : Nat} {k : Dsk} (h : X.dsk[j]? = some k) (hk : k.goes = false) : run P W (n + 2) "Office.going" [.loc o, .int j] s = .err "Stopped" s := by
  obtain ⟨v, hv⟩ := A.off
  obtain ⟨d, w, hj, hd, _⟩ := A.at_ h
  have h1 := desk_of_ok (W := W) (n := n) hl A hj
  rw [run_eq hl2 rfl (by decide)]
  simp [F_Office_going, begun, hv, offF, h1, hd, deskF, hk, gc_self]
theorem going_ok (hl : look P "Office.desk_of" = some F_Office_desk_of) (hl2 : look P "Office.going" = some F_Office_going) (A : OffAt o dl X s) {j d : Nat} {k : Dsk} (h : X.dsk[j]? = some k) (hj : dl[j]? = some d) (hk : k.goes = true) : run P W (n + 2) "Office.going" [.loc o, .int j] s = .ok (.val (.loc d)) s := by
  obtain ⟨v, hv⟩ := A.off
  obtain ⟨w, hd⟩ := A.dsk j d k hj h
  have h1 := desk_of_ok (W := W) (n := n) hl A hj
  rw [run_eq hl2 rfl (by decide)]
  simp [F_Office_going, begun, hv, offF, h1, hd, deskF, hk, gc_self]
end
end OI.Y

/-! OF2: the office's methods: holder, is_free, lend. -/
namespace OI.Y
open PySem (Str)
/-! lists of ints and texts, by values -/
def intsD (ns : List Int) : List D := ns.map .int
theorem flat_ints (ns : List Int) : (ns.map D.int).all D.flat = true := by
  rw [List.all_eq_true]
  intro x hx
  obtain ⟨n, _, rfl⟩ := List.mem_map.mp hx
  rfl
theorem flat_strs (ns : List Str) : (ns.map D.str).all D.flat = true := by
  rw [List.all_eq_true]
  intro x hx
  obtain ⟨n, _, rfl⟩ := List.mem_map.mp hx
  rfl
theorem any_ints (n : Int) (ns : List Int) : ((ns.map D.int).any fun y => eqv y (.int n)) = decide (n ∈ ns) := by
  induction ns with
  | nil => rfl
  | cons a r ih =>
    rw [List.map_cons, List.any_cons, ih]
    show ((a == n) || decide (n ∈ r)) = _
    by_cases h : a = n
    · subst h; simp
    · have : (a == n) = false := beq_eq_false_iff_ne.mpr h
      simp [this, Ne.symm h]
theorem any_strs (n : Str) (ns : List Str) : ((ns.map D.str).any fun y => eqv y (.str n)) = decide (n ∈ ns) := by
  induction ns with
  | nil => rfl
  | cons a r ih =>
    rw [List.map_cons, List.any_cons, ih]
    show ((a == n) || decide (n ∈ r)) = _
    by_cases h : a = n
    · subst h; simp
    · have : (a == n) = false := beq_eq_false_iff_ne.mpr h
      simp [this, Ne.symm h]
@[scoped simp] theorem isin_ol (n : Int) (ns : List Int) : cmp .isin (.val (.int n)) (.ol (ns.map .int)) = some (decide (n ∈ ns)) := by
  show (if (D.flat (.int n) && (ns.map D.int).all D.flat) = true then some ((ns.map D.int).any fun y => eqv y (.int n)) else _) = _
  rw [if_pos (by rw [flat_ints]; rfl), any_ints]
@[scoped simp] theorem isin_lst (n : Int) (ns : List Int) : cmp .isin (.val (.int n)) (.val (.lst (ns.map .int))) = some (decide (n ∈ ns)) := by
  show (if (D.flat (.int n) && (ns.map D.int).all D.flat) = true then some ((ns.map D.int).any fun y => eqv y (.int n)) else _) = _
  rw [if_pos (by rw [flat_ints]; rfl), any_ints]
theorem isin_strT (n : Str) (ns : List Str) : cmp .isin (.val (.str n)) (.val (.tup (ns.map .str))) = some (decide (n ∈ ns)) := by
  show (if (D.flat (.str n) && (ns.map D.str).all D.flat) = true then some ((ns.map D.str).any fun y => eqv y (.str n)) else _) = _
  rw [if_pos (by rw [flat_strs]; rfl), any_strs]
theorem isin_strL (n : Str) (ns : List Str) : cmp .isin (.val (.str n)) (.ol (ns.map .str)) = some (decide (n ∈ ns)) := by
  show (if (D.flat (.str n) && (ns.map D.str).all D.flat) = true then some ((ns.map D.str).any fun y => eqv y (.str n)) else _) = _
  rw [if_pos (by rw [flat_strs]; rfl), any_strs]
theorem nin_of {a b : M} {c : Bool} (h : cmp .isin a b = some c) : cmp .nin a b = some (!c) := by
  show (cmp .isin a b).map _ = _
  rw [h]
  rfl
/-- the ints i .. j - 1 -/
def rgI (i j : Int) : List Int := (List.range (j - i).toNat).map fun k => i + (k : Nat)
theorem rng_rgI (i j : Int) : rng i j = (rgI i j).map .int := by
  unfold rng rgI
  rw [List.map_map]
  rfl
theorem rgI_len (i j : Int) : (rgI i j).length = (j - i).toNat := by unfold rgI; rw [List.length_map, List.length_range]
theorem rgI_mem {i j x : Int} : x ∈ rgI i j ↔ i ≤ x ∧ x < j := by
  unfold rgI
  rw [List.mem_map]
  constructor
  · rintro ⟨k, hk, rfl⟩
    rw [List.mem_range] at hk
    omega
  · rintro ⟨h1, h2⟩
    exact ⟨(x - i).toNat, List.mem_range.mpr (by omega), by omega⟩
theorem rgI_cons {i j : Int} (h : i < j) : rgI i j = i :: rgI (i + 1) j := by
  unfold rgI
  rw [show (j - i).toNat = (j - (i + 1)).toNat + 1 by omega, List.range_succ_eq_map, List.map_cons, List.map_map]
  congr 1
  · simp
  · apply List.map_congr_left
    intro k _
    simp
    omega
theorem rgI_nil {i j : Int} (h : j ≤ i) : rgI i j = [] := by
  unfold rgI
  rw [show (j - i).toNat = 0 by omega]
  rfl

/-- at which desk a number lies -/
def holdG : List Dsk → Nat → Int → Option Nat
  | [], _, _ => none
  | k :: r, j, n => if n ∈ k.lying then some j else holdG r (j + 1) n
def Off.holder (X : Off) (n : Int) : Option Nat := holdG X.dsk 0 n
theorem holdG_some {n : Int} {r : Nat} : ∀ {l : List Dsk} {j : Nat}, holdG l j n = some r → ∃ k, j ≤ r ∧ l[r - j]? = some k ∧ n ∈ k.lying
  | [], j, h => by cases h
  | k :: l, j, h => by
    unfold holdG at h
    split at h
    · rename_i hm
      cases h
      exact ⟨k, Nat.le_refl _, by rw [Nat.sub_self]; rfl, hm⟩
    · obtain ⟨k', h1, h2, h3⟩ := holdG_some h
      refine ⟨k', by omega, ?_, h3⟩
      rw [show r - j = (r - (j + 1)) + 1 by omega]
      exact h2
theorem holdG_none {n : Int} : ∀ {l : List Dsk} {j : Nat}, holdG l j n = none ↔ ∀ k ∈ l, n ∉ k.lying
  | [], j => by simp [holdG]
  | k :: l, j => by
    unfold holdG
    split
    · rename_i hm
      simp [hm]
    · rename_i hm
      rw [holdG_none (l := l) (j := j + 1)]
      simp [hm]
/-- lent to nobody, never used -/
def Off.free (X : Off) (n : Int) : Bool := (wget X.words n).isNone && (X.holder n).isNone
def optI : Option Nat → D
  | none => .non
  | some j => .int j
section
variable {P : Prog} {W n : Nat} {s : Store} {o : Nat} {dl : List Nat} {X : Off}
theorem holder_loop (A : OffAt o dl X s) (R : Runs) (num : Int) : ∀ (m i : Nat) (o2 : Option M), i + m = X.dsk.length → ∃ o2', forL [] s (.one 2) (execs R W (.cons (.ifs (.cmp .isin (.var 1) (.attr (.idx (.attr (.var 0) "desks") (.var 2)) "lying")) (.cons (.ret (.var 2))
  .nil) .nil)
  .nil)) (rng i X.dsk.length) [some (.val (.loc o)), some (.val (.int num)), o2] s = (match holdG (X.dsk.drop i) i num with
    | some j => .ok (.ret (.val (.int j))) [some (.val (.loc o)), some (.val (.int num)), o2'] s
    | none => .ok .nx [some (.val (.loc o)), some (.val (.int num)), o2'] s)
  | 0, i, o2, h => by
    refine ⟨o2, ?_⟩
    rw [rng_nil (by omega), List.drop_eq_nil_of_le (by omega)]
    simp [holdG]
  | m + 1, i, o2, h => by
    have hi : i < X.dsk.length := by omega
    obtain ⟨v, hv⟩ := A.off
    obtain ⟨d, w, hj, hd, hx⟩ := A.at_ (List.getElem?_eq_getElem hi)
    rw [rng_cons (by omega), forL_cons, if_pos (still_nil _ _), List.drop_eq_getElem_cons hi]
    by_cases hm : num ∈ (X.dsk[i]).lying
    · refine ⟨some (.val (.int i)), ?_⟩
      simp [holdG, hm, hv, offF, hx, hd, deskF]
    · obtain ⟨o2', ih⟩ := holder_loop A R num m (i + 1) (some (.val (.int i))) (by omega)
      refine ⟨o2', ?_⟩
      push_cast at ih
      simp [holdG, hm, hv, offF, hx, hd, deskF]
      exact ih
theorem holder_ok (hl : look P "Office.holder" = some F_Office_holder) (A : OffAt o dl X s) (hz : X.dsk.length ≤ LIM) (num : Int) : run P W (n + 1) "Office.holder" [.loc o, .int num] s = .ok (.val (optI (X.holder num))) s := by
  obtain ⟨v, hv⟩ := A.off
  obtain ⟨o2', h⟩ := holder_loop (W := W) A (run P W n) num X.dsk.length 0 none (by omega)
  rw [run_eq hl rfl (by decide)]
  rw [List.drop_zero] at h
  push_cast at h
  simp [F_Office_holder, begun, hv, offF, A.len, getI_len hz, h]
  show fin s (Res.bind (match X.holder num with | some j => _ | none => _) _) = _
  cases X.holder num with
  | none => simp [optI, gc_self]
  | some j => simp [optI, gc_self]
theorem is_free_ok (hl : look P "Office.holder" = some F_Office_holder) (hl2 : look P "Office.is_free" = some F_Office_is_free) (A : OffAt o dl X s) (hz : X.dsk.length ≤ LIM) (num : Int) : run P W (n + 2) "Office.is_free" [.loc o, .int num] s = .ok (.val (.bl (X.free num))) s := by
  obtain ⟨v, hv⟩ := A.off
  have h1 := holder_ok (W := W) (n := n) hl A hz num
  rw [run_eq hl2 rfl (by decide)]
  unfold Off.free
  cases hw : wget X.words num with
  | some w => simp [F_Office_is_free, begun, hv, offF, hw, gc_self]
  | none =>
    cases hh : X.holder num with
    | none => simp [F_Office_is_free, begun, hv, offF, hw, h1, hh, optI, gc_self]
    | some j => simp [F_Office_is_free, begun, hv, offF, hw, h1, hh, optI, gc_self]
end

/-! ### lend -/
/-- the first number behind which so many free ones stand, run of them counted so far -/
def scan (free : Int → Bool) (many : Int) : Nat → Int → Int → Option Int
  | 0, _, _ => none
  | k + 1, i, r => if (if free i then r + 1 else 0) = many then some i else scan free many k (i + 1) (if free i then r + 1 else 0)
theorem scan_some {free : Int → Bool} {many : Int} : ∀ {k : Nat} {i r x : Int}, (∀ t, i - r ≤ t → t < i → free t = true) → 0 ≤ r → r < many → scan free many k i r = some x →
    i ≤ x ∧ x < i + k ∧ i - r ≤ x - many + 1 ∧ (∀ t, x - many < t → t ≤ x → free t = true) ∧ ∀ p, i - r ≤ p → p < x - many + 1 → ∃ t, p ≤ t ∧ t < p + many ∧ free t = false
  | 0, i, r, x, _, _, _, h => by cases h
  | k + 1, i, r, x, hf, h0, h1, h => by
    unfold scan at h
    cases hi : free i with
    | true =>
      rw [hi] at h
      simp only [if_true] at h
      split at h
      · rename_i hm
        cases h
        refine ⟨Int.le_refl _, by omega, by omega, fun t h2 h3 => ?_, fun p h2 h3 => by omega⟩
        by_cases z : t = i
        · rw [z]; exact hi
        · exact hf t (by omega) (by omega)
      · rename_i hm
        obtain ⟨a, b, c, d, e⟩ := scan_some (i := i + 1) (r := r + 1) (fun t h2 h3 => by
          by_cases z : t = i
          · rw [z]; exact hi
          · exact hf t (by omega) (by omega)) (by omega) (by omega) h
        exact ⟨by omega, by omega, by omega, d, fun p h2 h3 => e p (by omega) h3⟩
    | false =>
      rw [hi] at h
      simp only [Bool.false_eq_true, if_false] at h
      rw [if_neg (by omega)] at h
      obtain ⟨a, b, c, d, e⟩ := scan_some (i := i + 1) (r := 0) (fun t h2 h3 => by omega) (by omega) (by omega) h
      refine ⟨by omega, by omega, by omega, d, fun p h2 h3 => ?_⟩
      by_cases z : p ≤ i
      · exact ⟨i, z, by omega, hi⟩
      · exact e p (by omega) h3
theorem scan_none {free : Int → Bool} {many : Int} : ∀ {k : Nat} {i r : Int}, (∀ t, i - r ≤ t → t < i → free t = true) → 0 ≤ r → r < many → scan free many k i r = none → ∀ p, i - r ≤ p → p + many ≤ i + k → ∃ t, p ≤ t ∧ t < p + many ∧ free t = false
  | 0, i, r, _, _, _, _, p, h2, h3 => by omega
  | k + 1, i, r, hf, h0, h1, h, p, h2, h3 => by
    unfold scan at h
    cases hi : free i with
    | true =>
      rw [hi] at h
      simp only [if_true] at h
      split at h
      · cases h
      · exact scan_none (i := i + 1) (r := r + 1) (fun t h2 h3 => by
          by_cases z : t = i
          · rw [z]; exact hi
          · exact hf t (by omega) (by omega)) (by omega) (by omega) h p (by omega) (by omega)
    | false =>
      rw [hi] at h
      simp only [Bool.false_eq_true, if_false] at h
      rw [if_neg (by omega)] at h
      by_cases z : p ≤ i
      · exact ⟨i, z, by omega, hi⟩
      · exact scan_none (i := i + 1) (r := 0) (fun t h2 h3 => by omega) (by omega) (by omega) h p (by omega) (by omega)
/-- the block that is lent: its last number -/
def Off.block (X : Off) (many : Int) : Option Int := scan X.free many X.top.toNat 1 0
theorem block_some {X : Off} {many x : Int} (h1 : 1 ≤ many) (h : X.block many = some x) : many ≤ x ∧ x ≤ X.top ∧ (∀ t, x - many < t → t ≤ x → X.free t = true) ∧ ∀ p, 1 ≤ p → p < x - many + 1 → ∃ t, p ≤ t ∧ t < p + many ∧ X.free t = false := by
  obtain ⟨a, b, c, d, e⟩ := scan_some (i := 1) (r := 0) (fun t h2 h3 => by omega) (by omega) (by omega) h
  exact ⟨by omega, by omega, d, fun p h2 h3 => e p (by omega) h3⟩
theorem block_none {X : Off} {many : Int} (h1 : 1 ≤ many) (h : X.block many = none) : ∀ p, 1 ≤ p → p + many - 1 ≤ X.top → ∃ t, p ≤ t ∧ t < p + many ∧ X.free t = false := fun p h2 h3 =>
  scan_none (i := 1) (r := 0) (fun t h2 h3 => by omega) (by omega) (by omega) h p (by omega) (by omega)
def Dsk.lent (k : Dsk) (a b : Int) : Dsk := { k with lying := k.lying ++ rgI a (b + 1) }
section
variable {P : Prog} {W n : Nat} {s : Store} {o : Nat} {dl : List Nat} {X : Off}
theorem lend_loop (hl : look P "Office.holder" = some F_Office_holder) (hl2 : look P "Office.is_free" = some F_Office_is_free) (A : OffAt o dl X s) (hz : X.dsk.length ≤ LIM) (ht : X.top ≤ 400) {d v : Nat} {k : Dsk} (hd : s[d]? = some ⟨.ins "Desk" (deskF k), v⟩) (hk : k.lying.length + 400 ≤ LIM) (desk many : Int) : ∀ (m : Nat) (i r : Int) (o5 : Option M), i + m = X.top + 1 → 0 ≤ r → r < i → 1 ≤ i →
    ∃ e', forL [] s (.one 5) (execs (run P W (n + 2)) W (.cons (.asg (.one 4) (.ife (.meth (.var 0) "Office" "is_free" (.cons (.var 5) .nil)) (.bin .add (.var 4) (.cst (.int 1))) (.cst (.int 0))))
  (.cons (.ifs (.cmp .eq (.var 4) (.var 2)) (.cons (.mut1 "extend" (.attr (.var 3) "lying") (.lrange (.bin .add (.bin .sub (.var 5) (.var 2)) (.cst (.int 1))) (.bin .add (.var 5) (.cst (.int 1)))))
  (.cons (.ret (.tup (.cons (.bin .add (.bin .sub (.var 5) (.var 2)) (.cst (.int 1))) (.cons (.var 5) .nil))))
  .nil)) .nil)
  .nil))) (rng i (X.top + 1)) [some (.val (.loc o)), some (.val (.int desk)), some (.val (.int many)), some (.val (.loc d)), some (.val (.int r)), o5] s = (match scan X.free many m i r with
    | some x => .ok (.ret (.val (.tup [.int (x - many + 1), .int x]))) e' (s.set d ⟨.ins "Desk" (deskF (k.lent (x - many + 1) x)), v + 1⟩)
    | none => .ok .nx e' s)
  | 0, i, r, o5, h, _, _, _ => by
    apply Exists.intro
    rw [rng_nil (by omega)]
    simp [scan]
    rfl
  | m + 1, i, r, o5, h, h0, h1, h2 => by
    obtain ⟨w, hv⟩ := A.off
    have hf := is_free_ok (W := W) (n := n) hl hl2 A hz i
    rw [rng_cons (by omega), forL_cons, if_pos (still_nil _ _)]
    unfold scan
    have step : ∀ r' : Int, r' = (if X.free i then r + 1 else 0) → 0 ≤ r' ∧ r' ≤ i := fun r' e => by
      rw [e]; split <;> omega
    by_cases hm : (if X.free i then r + 1 else 0) = many
    · obtain ⟨g1, g2⟩ := step many hm.symm
      apply Exists.intro
      have hlen : k.lying.length + many.toNat ≤ LIM := by omega
      have hblk : rng (i - many + 1) (i + 1) = (rgI (i - many + 1) (i + 1)).map .int := rng_rgI _ _
      have hbl : (rgI (i - many + 1) (i + 1)).length = many.toNat := by rw [rgI_len]; omega
      have hro : rngOk (i + 1 - (i - many + 1)) = true := decide_eq_true (by omega)
      cases hfi : X.free i with
      | true =>
        rw [hfi] at hm hf
        simp only [if_true] at hm
        simp [hv, offF, hf, hm, hd, deskF, getI_ok' (i := i - many + 1) (by omega) (by omega), getI_ok' (i := i + 1) (by omega) (by omega), hro, hblk, hbl, hlen, Dsk.lent]
        rfl
      | false =>
        rw [hfi] at hm hf
        simp only [Bool.false_eq_true, if_false] at hm
        simp [hv, offF, hf, hm, hd, deskF, getI_ok' (i := i - many + 1) (by omega) (by omega), getI_ok' (i := i + 1) (by omega) (by omega), hro, hblk, hbl, hlen, Dsk.lent]
    · obtain ⟨g1, g2⟩ := step _ rfl
      obtain ⟨e', ih⟩ := lend_loop hl hl2 A hz ht hd hk desk many m (i + 1) (if X.free i then r + 1 else 0) (some (.val (.int i))) (by omega) g1 (by omega) (by omega)
      refine ⟨e', ?_⟩
      rw [if_neg hm]
      cases hfi : X.free i with
      | true =>
        rw [hfi] at hm hf ih
        simp only [if_true] at hm ih
        simp [hv, offF, hf, hm]
        exact ih
      | false =>
        rw [hfi] at hm hf ih
        simp only [Bool.false_eq_true, if_false] at hm ih
        simp [hv, offF, hf, hm]
        exact ih
end
end OI.Y

/-! OF3: the office's methods: lend, report, back, open_numbers, rest. -/
namespace OI.Y
open PySem (Str)
/-- the office's own functions are there -/
structure OfB (P : Prog) : Prop where
  di : look P "Desk.__init__" = some F_Desk_init
  oi : look P "Office.__init__" = some F_Office_init
  desk_of : look P "Office.desk_of" = some F_Office_desk_of
  going : look P "Office.going" = some F_Office_going
  holder : look P "Office.holder" = some F_Office_holder
  is_free : look P "Office.is_free" = some F_Office_is_free
  lend : look P "Office.lend" = some F_Office_lend
  report : look P "Office.report" = some F_Office_report
  back : look P "Office.back" = some F_Office_back
  stop : look P "Office.stop" = some F_Office_stop
structure OfP (P : Prog) : Prop extends OfB P where
  open_numbers : look P "Office.open_numbers" = some F_Office_open_numbers
  rest : look P "Office.rest" = some F_Office_rest
theorem cut_take (xs : List D) (n : Nat) : cutD xs none (some (n : Int)) = xs.take n := by
  unfold cutD HT.sIx
  simp
  rw [if_neg (by omega)]
  omega
theorem cut_drop (xs : List D) (n : Nat) : cutD xs (some (n : Int)) none = xs.drop n := by
  unfold cutD HT.sIx
  simp
  rw [if_neg (by omega)]
  by_cases h : n ≤ xs.length
  · rw [Nat.min_eq_left h, List.take_of_length_le (by rw [List.length_drop]; omega)]
  · rw [Nat.min_eq_right (by omega), List.drop_eq_nil_of_le (Nat.le_refl _), List.drop_eq_nil_of_le (by omega), List.take_nil]
@[scoped simp] theorem slice_ol (xs : List D) (lo hi : Option Int) : slice (.ol xs) lo hi = some (.ol (cutD xs lo hi)) := Eq.trans rfl rfl
@[scoped simp] theorem slice_lst (xs : List D) (lo hi : Option Int) : slice (.val (.lst xs)) lo hi = some (.ol (cutD xs lo hi)) := Eq.trans rfl rfl
@[scoped simp] theorem pairs_ol (xs ys : List D) : pairs (.ol xs) (.val (.lst ys)) = some ((xs.zip ys).map fun p => .tup [p.1, p.2]) := Eq.trans rfl rfl
@[scoped simp] theorem ints_map (ns : List Int) : ints? (ns.map .int) = some ns := by
  induction ns with
  | nil => rfl
  | cons a r ih =>
    show (ints? (r.map .int)).map (a :: ·) = _
    rw [ih]; rfl
@[scoped simp] theorem sorted_ol (ns : List Int) : bi1 "sorted" (.ol (ns.map .int)) = some (.ol ((sortI ns).map .int)) := by
  show (match (M.lst? (.ol (ns.map .int))).bind ints? with | some ns => some (M.ol ((sortI ns).map .int)) | none => none) = _
  show (match ints? (ns.map .int) with | some ns => some (M.ol ((sortI ns).map .int)) | none => none) = _
  rw [ints_map]
@[scoped simp] theorem sorted_lst (ns : List Int) : bi1 "sorted" (.val (.lst (ns.map .int))) = some (.ol ((sortI ns).map .int)) := by
  show (match ints? (ns.map .int) with | some ns => some (M.ol ((sortI ns).map .int)) | none => none) = _
  rw [ints_map]
@[scoped simp] theorem list_ol (xs : List D) : bi1 "list" (.ol xs) = some (.ol xs) := Eq.trans rfl rfl
@[scoped simp] theorem list_lst (xs : List D) : bi1 "list" (.val (.lst xs)) = some (.ol xs) := Eq.trans rfl rfl
def Dsk.cleared (k : Dsk) : Dsk := { k with lying := [] }
def Dsk.rep (k : Dsk) (c : Nat) : Dsk := { k with lying := k.lying.drop c }
def wputs (ws : List (Int × Str)) (l : List (Int × Str)) : List (Int × Str) := l.foldl (fun w p => wput w p.1 p.2) ws
theorem wputs_len : ∀ (l ws : List (Int × Str)), (wputs ws l).length ≤ ws.length + l.length
  | [], ws => Nat.le_refl _
  | p :: l, ws => by
    have h1 := wputs_len l (wput ws p.1 p.2)
    have h2 := wput_len ws p.1 p.2
    show (wputs (wput ws p.1 p.2) l).length ≤ _
    rw [List.length_cons]
    omega
def WORDSd : List Str := ["paper", "spoilt"]
section
variable {P : Prog} {W n : Nat} {s : Store} {o : Nat} {dl : List Nat} {X : Off}
theorem lend_ok (p : OfB P) (A : OffAt o dl X s) (hz : X.dsk.length ≤ LIM) (ht : X.top ≤ 400) {j d v : Nat} {k : Dsk} (h : X.dsk[j]? = some k) (hj : dl[j]? = some d) (hd : s[d]? = some ⟨.ins "Desk" (deskF k), v⟩) (hg : k.goes = true) (hk : k.lying.length + 400 ≤ LIM) (many : Int) : run P W (n + 3) "Office.lend" [.loc o, .int j, .int many] s = if many < 1 then .err "NoCount" s else (match X.block many with
    | some x => .ok (.val (.tup [.int (x - many + 1), .int x])) (s.set d ⟨.ins "Desk" (deskF (k.lent (x - many + 1) x)), v + 1⟩)
    | none => .err "NoRoom" s) := by
  obtain ⟨w, hv⟩ := A.off
  have h1 := going_ok (W := W) (n := n) p.desk_of p.going A h hj hg
  rw [run_eq p.lend rfl (by decide)]
  by_cases hm : many < 1
  · rw [if_pos hm]
    simp [F_Office_lend, begun, hv, offF, h1, hm, gc_self]
  · rw [if_neg hm]
    by_cases hT : 0 ≤ X.top
    · obtain ⟨e', h2⟩ := lend_loop (W := W) (n := n) p.holder p.is_free A hz ht hd hk j many X.top.toNat 1 0 none (by omega) (by omega) (by omega) (by omega)
      simp [F_Office_lend, begun, hv, offF, h1, hm, h2]
      show fin s (Res.bind (match X.block many with | some x => _ | none => _) _) = _
      cases X.block many with
      | none => simp [gc_self]
      | some x => simp [gc_len]
    · have hb : X.block many = none := by
        unfold Off.block
        rw [show X.top.toNat = 0 by omega]
        rfl
      rw [hb]
      simp [F_Office_lend, begun, hv, offF, h1, hm, rng_nil (show X.top + 1 ≤ 1 by omega), gc_self]
theorem back_ok (p : OfB P) (A : OffAt o dl X s) {j d v : Nat} {k : Dsk} (h : X.dsk[j]? = some k) (hj : dl[j]? = some d) (hd : s[d]? = some ⟨.ins "Desk" (deskF k), v⟩) (hg : k.goes = true) : run P W (n + 3) "Office.back" [.loc o, .int j] s = .ok (.ol ((sortI k.lying).map .int)) (s.set d ⟨.ins "Desk" (deskF k.cleared), v + 1⟩) := by
  obtain ⟨w, hv⟩ := A.off
  have h1 := going_ok (W := W) (n := n) p.desk_of p.going A h hj hg
  rw [run_eq p.back rfl (by decide)]
  simp [F_Office_back, begun, hv, offF, h1, hd, deskF, gc_len, Dsk.cleared]
theorem stop_ok (p : OfB P) (A : OffAt o dl X s) {j d v : Nat} {k : Dsk} (h : X.dsk[j]? = some k) (hj : dl[j]? = some d) (hd : s[d]? = some ⟨.ins "Desk" (deskF k), v⟩) (hg : k.goes = true) : run P W (n + 3) "Office.stop" [.loc o, .int j] s = .ok (.ol (k.lying.map .int)) (s.set d ⟨.ins "Desk" (deskF { k with goes := false, low := some 0 }), v + 1 + 1⟩) := by
  obtain ⟨w, hv⟩ := A.off
  have hset : ∀ en : Ent, (s.set d en)[d]? = some en := fun en => List.getElem?_set_self (List.getElem?_eq_some_iff.mp hd).1
  have h1 := going_ok (W := W) (n := n) p.desk_of p.going A h hj hg
  rw [run_eq p.stop rfl (by decide)]
  simp [F_Office_stop, begun, hv, offF, h1, hd, deskF, gc_len, hset, lowD]
theorem open_ok (p : OfP P) (A : OffAt o dl X s) {j d v : Nat} {k : Dsk} (h : X.dsk[j]? = some k) (hj : dl[j]? = some d) (hd : s[d]? = some ⟨.ins "Desk" (deskF k), v⟩) : run P W (n + 2) "Office.open_numbers" [.loc o, .int j] s = .ok (.ol (if k.goes then k.lying.map .int else [])) s := by
  obtain ⟨w, hv⟩ := A.off
  have h1 := desk_of_ok (W := W) (n := n) p.desk_of A hj
  rw [run_eq p.open_numbers rfl (by decide)]
  cases hg : k.goes <;> simp [F_Office_open_numbers, begun, hv, offF, h1, hd, deskF, gc_self, hg]
theorem rest_ok (p : OfP P) (A : OffAt o dl X s) {j d v : Nat} {k : Dsk} (h : X.dsk[j]? = some k) (hj : dl[j]? = some d) (hd : s[d]? = some ⟨.ins "Desk" (deskF k), v⟩) : run P W (n + 2) "Office.rest" [.loc o, .int j] s = .ok (.ol (if k.goes then [] else k.lying.map .int)) s := by
  obtain ⟨w, hv⟩ := A.off
  have h1 := desk_of_ok (W := W) (n := n) p.desk_of A hj
  rw [run_eq p.rest rfl (by decide)]
  cases hg : k.goes <;> simp [F_Office_rest, begun, hv, offF, h1, hd, deskF, gc_self, hg]

/-! report -/
theorem report_loop {R : Runs} {a1 a2 a3 a5 : Option M} {t : Int} {dM : M} {sn : List (D × D)} : ∀ (l : List (Int × Str)) (ws : List (Int × Str)) (s : Store) (v : Nat) (o4 o6 : Option M), s[o]? = some ⟨.ins "Office" [("top", .val (.int t)), ("desks", dM), ("words", .od false (wD ws)), ("seen", .od false sn)], v⟩ → ws.length + l.length ≤ LIM → ∃ o4' o6' v',
    forL [.slot 5] s (.many [6, 4]) (execs R W (.cons (.setI (.attr (.var 0) "words") (.var 6) (.var 4)) .nil)) (l.map fun p => .tup [.int p.1, .str p.2]) [some (.val (.loc o)), a1, a2, a3, o4, a5, o6] s = .ok .nx [some (.val (.loc o)), a1, a2, a3, o4', a5, o6'] (s.set o ⟨.ins "Office" [("top", .val (.int t)), ("desks", dM), ("words", .od false (wD (wputs ws l))), ("seen", .od false sn)], v'⟩)
  | [], ws, s, v, o4, o6, h, hz => ⟨o4, o6, v, by
      have : s.set o ⟨.ins "Office" [("top", .val (.int t)), ("desks", dM), ("words", .od false (wD ws)), ("seen", .od false sn)], v⟩ = s := by
        obtain ⟨h1, h2⟩ := List.getElem?_eq_some_iff.mp h
        rw [← h2]; exact List.set_getElem_self h1
      show (if still _ _ _ = true then _ else _) = _
      rw [if_pos (by simp)]
      show Res.ok _ _ _ = Res.ok _ _ (s.set o ⟨.ins "Office" [("top", .val (.int t)), ("desks", dM), ("words", .od false (wD ws)), ("seen", .od false sn)], v⟩)
      rw [this]⟩
  | p :: l, ws, s, v, o4, o6, h, hz => by
    have hlt := (List.getElem?_eq_some_iff.mp h).1
    have hz' : ws.length < LIM := by rw [List.length_cons] at hz; omega
    obtain ⟨q4, q6, v', ih⟩ := report_loop (R := R) (a1 := a1) (a2 := a2) (a3 := a3) (a5 := a5) (t := t) (dM := dM) (sn := sn) l (wput ws p.1 p.2) (s.set o ⟨.ins "Office" [("top", .val (.int t)), ("desks", dM), ("words", .od false (wD (wput ws p.1 p.2))), ("seen", .od false sn)], v + 1⟩) (v + 1) (some (.val (.str p.2))) (some (.val (.int p.1))) (List.getElem?_set_self hlt) (by
      have := wput_len ws p.1 p.2
      rw [List.length_cons] at hz
      omega)
    refine ⟨q4, q6, v', ?_⟩
    rw [List.map_cons, forL_cons]
    have hst : ∀ s0 s1 : Store, still [.slot 5] s0 s1 = true := fun _ _ => rfl
    have hsrc : ∀ (s0 s1 : Store) (l : List D) (e : Env) (s' : Store) (b : Env → Store → Res Flow) (t : Tg), forL [.slot 5] s0 t b l e s' = forL [.slot 5] s1 t b l e s' := fun s0 s1 l e s' b t => by
      induction l generalizing e s' with
      | nil => rfl
      | cons x l ih =>
        rw [forL_cons, forL_cons]
        rw [if_pos (hst _ _), if_pos (hst _ _)]
        cases store t (.val x) e with
        | none => rfl
        | some e1 =>
          show Res.bind _ _ = Res.bind _ _
          cases b e1 s' with
          | ok f e s => cases f with
            | nx => exact ih e s
            | ret m => rfl
          | err c e s => rfl
          | bad => rfl
    rw [if_pos (hst _ _)]
    simp [h, wD_len, hz']
    rw [hsrc s (s.set o ⟨.ins "Office" [("top", .val (.int t)), ("desks", dM), ("words", .od false (wD (wput ws p.1 p.2))), ("seen", .od false sn)], v + 1⟩)]
    rw [ih, List.set_set]
    rfl
def wnew (w : Str) : Bool := !decide (w ∈ WORDSd)
def wnewD : D → Bool
  | .str w => wnew w
  | _ => false
theorem filt_strs (ws : List Str) : ((ws.map D.str).filter wnewD).map id = (ws.filter wnew).map .str := by
  rw [List.map_id]
  induction ws with
  | nil => rfl
  | cons a r ih =>
    rw [List.map_cons, List.filter_cons, List.filter_cons, ih]
    show (if wnew a = true then _ else _) = _
    split <;> rfl
theorem report_ok (p : OfB P) (A : OffAt o dl X s) {j d v : Nat} {k : Dsk} (h : X.dsk[j]? = some k) (hj : dl[j]? = some d) (hd : s[d]? = some ⟨.ins "Desk" (deskF k), v⟩) (hg : k.goes = true) (ws : List Str) (hw : ∀ w ∈ ws, (D.str w).lay = true) (h1 : ws.length ≤ LIM) (h2 : X.words.length + ws.length ≤ LIM) : ∃ v1 v2, run P W (n + 3) "Office.report" [.loc o, .int j, .lst (ws.map .str)] s = if (ws.filter wnew).isEmpty = false then .err "NoWord" s else if k.lying.length < ws.length then .err "Short" s else .ok (.ol ((k.lying.take ws.length).map .int)) ((s.set o ⟨.ins "Office" (offF { X with words := wputs X.words ((k.lying.take ws.length).zip ws) } dl), v1⟩).set d ⟨.ins "Desk" (deskF (k.rep ws.length)), v2⟩) := by
  obtain ⟨w, hv⟩ := A.off
  have hdo : o ≠ d := fun z => A.ne (z ▸ List.mem_of_getElem? hj)
  have hg1 := going_ok (W := W) (n := n) p.desk_of p.going A h hj hg
  have hlc : ∀ (R : Runs) (e : Env) (a0 a1 a3 a5 a6 : Option M), e = [a0, a1, some (.val (.lst (ws.map .str))), a3, none, a5, a6] → lcL [] s [4] (.one 4) (evc R (.yes (.cmp .nin (.var 4) (.glob "WORDS" (.tup [.str "paper", .str "spoilt"]))))) (valD (ev R (.var 4))) (ws.map .str) [] e s = .ok ((ws.filter wnew).map .str) e s := fun R e a0 a1 a3 a5 a6 he => by
    subst he
    rw [lc_filter (p := wnewD) (g := id) (by simp) [] fun x hx => ?_, List.nil_append, filt_strs]
    obtain ⟨w, hw, rfl⟩ := List.mem_map.mp hx
    have hn : cmp .nin (.val (.str w)) (.val (.tup [.str "paper", .str "spoilt"])) = some (wnew w) := nin_of (isin_strT w WORDSd)
    refine ⟨_, [a0, a1, some (.val (.lst (ws.map .str))), a3, some (.val (.str w)), a5, a6], rfl, ?_, ?_⟩
    · simp [hn, wnewD]
    · show if wnew w = true then _ else _
      split
      · exact ⟨[a0, a1, some (.val (.lst (ws.map .str))), a3, some (.val (.str w)), a5, a6], by simp, by simp [wipe]⟩
      · simp [wipe]
  have hne : cmp .ne (.ol ((ws.filter wnew).map D.str)) (.ol []) = some (!(ws.filter wnew).isEmpty) := by
    rw [ne_L0 (a := .ol ((ws.filter wnew).map D.str)) (xs := (ws.filter wnew).map D.str) rfl (lay_strs fun x hx => hw x (List.mem_filter.mp hx).1)]
    cases ws.filter wnew <;> rfl
  by_cases c1 : (ws.filter wnew).isEmpty = false
  · refine ⟨0, 0, ?_⟩
    rw [run_eq p.report rfl (by decide), if_pos c1]
    simp [F_Office_report, begun, hv, offF, hg1, lcK, wipeOk, h1, wipe]
    rw [hlc (run P W (n + 2)) _ _ _ _ _ _ rfl]
    simp [lcEnd, back, hne, c1, gc_self]
  · by_cases c2 : k.lying.length < ws.length
    · refine ⟨0, 0, ?_⟩
      rw [run_eq p.report rfl (by decide), if_neg c1, if_pos c2]
      simp [F_Office_report, begun, hv, offF, hg1, lcK, wipeOk, h1, wipe]
      rw [hlc (run P W (n + 2)) _ _ _ _ _ _ rfl]
      simp [lcEnd, back, hne, c1, gc_self, hd, deskF, c2]
    · obtain ⟨q4, q6, v', hr⟩ := report_loop (o := o) (W := W) (R := run P W (n + 2)) (a1 := some (.val (.int j))) (a2 := some (.val (.lst (ws.map .str)))) (a3 := some (.val (.loc d))) (a5 := some (.ol ((k.lying.take ws.length).map .int))) (t := X.top) (dM := .ol (dl.map .loc)) (sn := sD X.seen) ((k.lying.take ws.length).zip ws) X.words s w none none hv (by
        have : ((k.lying.take ws.length).zip ws).length ≤ ws.length := by rw [List.length_zip]; exact Nat.min_le_right _ _
        omega)
      refine ⟨v', v + 1, ?_⟩
      have hz : ((List.take ws.length (k.lying.map D.int)).zip (ws.map D.str)).map (fun p => D.tup [p.1, p.2]) = ((k.lying.take ws.length).zip ws).map fun p => .tup [.int p.1, .str p.2] := by
        rw [← List.map_take, List.zip_map, List.map_map]
        rfl
      have hd2 : ∀ en : Ent, (s.set o en)[d]? = some ⟨.ins "Desk" (deskF k), v⟩ := fun en => by rw [List.getElem?_set_ne hdo]; exact hd
      rw [run_eq p.report rfl (by decide), if_neg c1, if_neg c2]
      simp [F_Office_report, begun, hv, offF, hg1, lcK, wipeOk, h1, wipe]
      rw [hlc (run P W (n + 2)) _ _ _ _ _ _ rfl]
      simp [lcEnd, back, hne, c1, hd, deskF, c2, cut_take, cut_drop, hz]
      have hap : apart [.slot 5] ((Tg.many [6, 4]).slots ++ wrs (.cons (.setI (.attr (.var 0) "words") (.var 6) (.var 4)) .nil)) = true := by decide
      rw [if_pos hap]
      rw [← List.map_take, hr]
      simp [hd2, deskF, cut_drop, gc_len, Dsk.rep]
end
end OI.Y

/-! OF4: an office is made; the law's model of it is made. -/
namespace OI.Y
open PySem (Str)
def F_law_office : Fn := ⟨2, 4, (.cons (.asg (.one 2) (.share (.dct false (.cons (.cst (.str "top")) (.var 0) (.cons (.cst (.str "words")) (.share (.dct false .nil)) (.cons (.cst (.str "seen")) (.share (.dct false .nil)) (.cons (.cst (.str "lying")) (.share (.lc (.lst .nil) (.one 3) (.rng1 (.var 1)) .no [3])) .nil)))))))
  (.cons (.mut1 "update" (.var 2) (.dct false (.cons (.cst (.str "goes")) (.share (.lc (.cst (.bl true)) (.one 3) (.rng1 (.var 1)) .no [3])) (.cons (.cst (.str "low")) (.share (.lc (.cst .non) (.one 3) (.rng1 (.var 1)) .no [3])) .nil))))
  (.cons (.ret (.var 2))
  .nil)))⟩
def freshD : Dsk := ⟨[], true, none⟩
def fresh (top : Int) (k : Nat) : Off := ⟨top, List.replicate k freshD, [], []⟩
@[scoped simp] theorem get_mid {α : Type} (s t : List α) (a : α) : (s ++ a :: t)[s.length]? = some a := by
  rw [List.getElem?_append_right (Nat.le_refl _), Nat.sub_self]; rfl
@[scoped simp] theorem set_mid {α : Type} (s t : List α) (a b : α) : (s ++ a :: t).set s.length b = s ++ b :: t := by
  rw [List.set_append, if_neg (Nat.lt_irrefl _), Nat.sub_self]; rfl
theorem get_mid' {α : Type} (s t : List α) (a : α) {n : Nat} (h : n = s.length) : (s ++ a :: t)[n]? = some a := by
  subst h; exact get_mid ..
theorem set_mid' {α : Type} (s t : List α) (a b : α) {n : Nat} (h : n = s.length) : (s ++ a :: t).set n b = s ++ b :: t := by
  subst h; exact set_mid ..
theorem get_off {α : Type} (s t : List α) (i : Nat) : (s ++ t)[s.length + i]? = t[i]? := by
  rw [List.getElem?_append_right (Nat.le_add_right _ _), Nat.add_sub_cancel_left]
theorem gc_ne {s s' : Store} {m : M} (i : Nat) (hi : i < s.length) (h : s'[i]? ≠ s[i]?) : gc s m s' = s' := by
  unfold gc
  split
  · rename_i hg
    have e : (s'.take s.length)[i]? = s[i]? := by rw [hg.1]
    rw [List.getElem?_take, if_pos hi] at e
    exact absurd e h
  · rfl
theorem gc_loc {s s' : Store} {k : Nat} (h : s.length ≤ k) : gc s (.val (.loc k)) s' = s' := by
  unfold gc
  rw [if_neg]
  intro z
  have : decide (k < s.length) = true := z.2
  rw [decide_eq_true_eq] at this
  omega
@[scoped simp] theorem kind_upd (kvs : List (D × D)) : kindOk "update" (.od false kvs) = true := Eq.trans rfl rfl
@[scoped simp] theorem mut_upd (kvs more : List (D × D)) : mutate1 "update" (.od false kvs) (.dic false more) = if kvs.length + more.length ≤ LIM then some (.od false (dmerge kvs more)) else none := Eq.trans rfl rfl
section
variable {P : Prog} {W n : Nat}
theorem desk_init (p : OfB P) (s : Store) : run P W (n + 1) "Desk.__init__" [.loc s.length] (s ++ [⟨.ins "Desk" [], 0⟩]) = .ok (.val .non) (s ++ [⟨.ins "Desk" (deskF freshD), 3⟩]) := by
  rw [run_eq p.di rfl (by decide)]
  simp [F_Desk_init, begun, gc_len, deskF, freshD, lowD]
theorem desks_lc (p : OfB P) : ∀ (l : List D) (s0 s : Store) (acc : List D) (a0 a1 a2 : Option M), lcL [] s0 [3] (.one 3) (evc (run P W (n + 1)) .no) (valD (ev (run P W (n + 1)) (.new "Desk" .nil))) l acc [a0, a1, a2, none] s = .ok (acc ++ (List.range l.length).map fun i => .loc (s.length + i)) [a0, a1, a2, none] (s ++ List.replicate l.length ⟨.ins "Desk" (deskF freshD), 3⟩)
  | [], s0, s, acc, a0, a1, a2 => by
    rw [show (List.replicate ([] : List D).length (⟨.ins "Desk" (deskF freshD), 3⟩ : Ent)) = [] from rfl, List.append_nil, show ((List.range ([] : List D).length).map fun i => D.loc (s.length + i)) = [] from rfl, List.append_nil]
    exact if_pos (still_nil _ _)
  | x :: l, s0, s, acc, a0, a1, a2 => by
    have hi := desk_init (W := W) (n := n) p s
    have ih := desks_lc p l s0 (s ++ [⟨.ins "Desk" (deskF freshD), 3⟩]) (acc ++ [.loc s.length]) a0 a1 a2
    unfold lcL
    rw [if_pos (still_nil _ _)]
    simp [hi, wipe]
    rw [ih]
    congr 1
    · rw [List.append_assoc]
      congr 1
      rw [List.range_succ_eq_map, List.map_cons, List.map_map, Nat.add_zero, List.singleton_append]
      refine congrArg _ (List.map_congr_left ?_)
      intro i _
      show D.loc ((s ++ [_]).length + i) = D.loc (s.length + (i + 1))
      rw [List.length_append, List.length_singleton]
      congr 1
      omega
    · rw [List.append_assoc, List.replicate_succ]
      rfl
def dls (b k : Nat) : List Nat := (List.range k).map fun i => b + i
theorem office_init (p : OfB P) (s : Store) {top : Int} {k : Nat} (h1 : 1 ≤ top) (h2 : top ≤ 400) (h3 : 1 ≤ k) (h4 : k ≤ 6) : ∃ v, run P W (n + 2) "Office.__init__" [.loc s.length, .int top, .int k] (s ++ [⟨.ins "Office" [], 0⟩]) = .ok (.val .non) (s ++ ⟨.ins "Office" (offF (fresh top k) (dls (s.length + 1) k)), v⟩ :: List.replicate k ⟨.ins "Desk" (deskF freshD), 3⟩) := by
  refine ⟨4, ?_⟩
  have hk1 : (1 : Int) ≤ k := by omega
  have hk2 : (k : Int) ≤ 6 := by omega
  have hl : (rng 0 (k : Int)).length = k := by rw [rng_len]; omega
  have hL : k ≤ LIM := Nat.le_trans h4 (by decide)
  have hlc := desks_lc (W := W) (n := n) p (rng 0 k) (s ++ [⟨.ins "Office" [("top", .val (.int top))], 1⟩]) (s ++ [⟨.ins "Office" [("top", .val (.int top))], 1⟩]) [] (some (.val (.loc s.length))) (some (.val (.int top))) (some (.val (.int k)))
  rw [hl] at hlc
  rw [run_eq p.oi rfl (by decide)]
  simp [F_Office_init, begun, chainK_dec, h1, h2, hk1, hk2, getI_ok' (i := (k : Int)) (by omega) (by omega), lcK, wipeOk, hl, hL, wipe]
  rw [hlc]
  simp [lcEnd, back, dmerge, offF, fresh, dls, wD, sD]
  rw [gc_ne s.length (by simp) (by simp)]
  rfl
theorem new_off (s : Store) (top : Int) (k v w : Nat) : OffAt s.length (dls (s.length + 1) k) (fresh top k) (s ++ ⟨.ins "Office" (offF (fresh top k) (dls (s.length + 1) k)), v⟩ :: List.replicate k ⟨.ins "Desk" (deskF freshD), w⟩) where
  off := ⟨v, get_mid _ _ _⟩
  len := by simp [dls, fresh]
  dsk := fun j d kk h1 h2 => by
    have h1 : (List.map (fun i => s.length + 1 + i) (List.range k))[j]? = some d := h1
    rw [List.getElem?_map] at h1
    have h2 : (List.replicate k freshD)[j]? = some kk := h2
    rw [List.getElem?_replicate] at h2
    split at h2
    · rename_i hj
      cases h2
      rw [List.getElem?_range hj] at h1
      have h1 : s.length + 1 + j = d := Option.some.inj h1
      subst h1
      refine ⟨w, ?_⟩
      rw [List.getElem?_append_right (by omega), show s.length + 1 + j - s.length = j + 1 by omega, List.getElem?_cons_succ, List.getElem?_replicate, if_pos hj]
    · cases h2
  nd := by
    unfold dls
    exact List.Pairwise.map _ (fun a b h z => h (by omega)) (List.nodup_range (n := k))
  ne := by
    unfold dls
    intro h
    obtain ⟨i, _, e⟩ := List.mem_map.mp h
    omega
end
/-- the law's model at b .. b + 5 -/
structure ModAt (b : Nat) (X : Off) (s : Store) : Prop where
  w : ∃ v, s[b]? = some ⟨.dic false (wD X.words), v⟩
  se : ∃ v, s[b + 1]? = some ⟨.dic false (sD X.seen), v⟩
  ly : ∃ v, s[b + 2]? = some ⟨.lst (X.dsk.map fun k => .lst (k.lying.map .int)), v⟩
  di : ∃ v, s[b + 3]? = some ⟨.dic false [(.str "top", .int X.top), (.str "words", .loc b), (.str "seen", .loc (b + 1)), (.str "lying", .loc (b + 2)), (.str "goes", .loc (b + 4)), (.str "low", .loc (b + 5))], v⟩
  go : ∃ v, s[b + 4]? = some ⟨.lst (X.dsk.map fun k => .bl k.goes), v⟩
  lo : ∃ v, s[b + 5]? = some ⟨.lst (X.dsk.map fun k => lowD k.low), v⟩
section
variable {P : Prog} {W n : Nat}
theorem lc_const {R : Runs} {d : D} {a : IE} (h : ∀ e s, valD (ev R a) e s = .ok d e s) (s : Store) (a0 a1 a2 : Option M) (l : List D) : lcL [] s [3] (.one 3) (evc R .no) (valD (ev R a)) l [] [a0, a1, a2, none] s = .ok (List.replicate l.length d) [a0, a1, a2, none] s := by
  rw [lc_all (test := evc R .no) (g := fun _ => d) (by simp) [] fun x _ => ⟨[a0, a1, a2, some (.val x)], [a0, a1, a2, some (.val x)], [a0, a1, a2, some (.val x)], rfl, rfl, h _ _, rfl⟩, List.nil_append, List.map_const']
theorem law_office (hl : look P "_law_office" = some F_law_office) (s : Store) {top : Int} {k : Nat} (h4 : k ≤ 6) : ∃ t : Store, t.length = 6 ∧ run P W (n + 1) "_law_office" [.int top, .int k] s = .ok (.val (.loc (s.length + 3))) (s ++ t) ∧ ModAt s.length (fresh top k) (s ++ t) := by
  have hL : k ≤ LIM := Nat.le_trans h4 (by decide)
  have hln : (rng 0 (k : Int)).length = k := by rw [rng_len]; omega
  refine ⟨[⟨.dic false [], 0⟩, ⟨.dic false [], 0⟩, ⟨.lst (List.replicate k (.lst [])), 0⟩, ⟨.dic false [(.str "top", .int top), (.str "words", .loc s.length), (.str "seen", .loc (s.length + 1)), (.str "lying", .loc (s.length + 2)), (.str "goes", .loc (s.length + 4)), (.str "low", .loc (s.length + 5))], 1⟩, ⟨.lst (List.replicate k (.bl true)), 0⟩, ⟨.lst (List.replicate k .non), 0⟩], rfl, ?_, ?_⟩
  · rw [run_eq hl rfl (by decide)]
    have h6 : 6 ≤ LIM := by decide
    have h1 : ∀ e s, valD (ev (run P W n) (.lst .nil)) e s = .ok (.lst []) e s := fun e s => by simp
    have h2 : ∀ e s, valD (ev (run P W n) (.cst (.bl true))) e s = .ok (.bl true) e s := fun e s => by simp
    have h3 : ∀ e s, valD (ev (run P W n) (.cst .non)) e s = .ok .non e s := fun e s => by simp
    simp [F_law_office, begun, getI_ok' (i := (k : Int)) (by omega) (by omega), lcK, wipeOk, hln, hL, wipe, lc_const h1, lc_const h2, lc_const h3, lcEnd, back, dmerge, dput, h6, gc_loc]
  · exact ⟨⟨0, by rw [show s.length = s.length + 0 from rfl, get_off]; rfl⟩, ⟨0, by rw [get_off]; rfl⟩, ⟨0, by rw [get_off]; simp [fresh, freshD]⟩, ⟨1, by rw [get_off]; rfl⟩, ⟨0, by rw [get_off]; simp [fresh, freshD]⟩, ⟨0, by rw [get_off]; simp [fresh, freshD, lowD]⟩⟩
end
end OI.Y

/-! OF5: the laws' model: numbers lent, numbers reported. -/
namespace OI.Y
open PySem (Str)
def F_law_lent : Fn := ⟨3, 8, (.cons (.ifs (.cmp .lt (.var 2) (.cst (.int 1))) (.cons (.ret (.cst (.str "NoCount")))
  .nil) .nil)
  (.cons (.asg (.one 3) (.bi1 "dict" (.idx (.var 0) (.cst (.str "words")))))
  (.cons (.fors (.one 4) (.of (.idx (.var 0) (.cst (.str "lying")))) (.cons (.fors (.one 5) (.of (.var 4)) (.cons (.setI (.var 3) (.var 5) (.cst (.bl true)))
  .nil))
  .nil))
  (.cons (.fors (.one 6) (.rng2 (.cst (.int 1)) (.bin .add (.bin .sub (.idx (.var 0) (.cst (.str "top"))) (.var 2)) (.cst (.int 2)))) (.cons (.asg (.one 7) (.lrange (.var 6) (.bin .add (.var 6) (.var 2))))
  (.cons (.ifs (.cmp .eq (.lc (.var 5) (.one 5) (.of (.var 7)) (.yes (.cmp .isin (.var 5) (.var 3))) [5]) (.lst .nil)) (.cons (.setI (.idx (.var 0) (.cst (.str "lying"))) (.var 1) (.bin .add (.idx (.idx (.var 0) (.cst (.str "lying"))) (.var 1)) (.var 7)))
  (.cons (.ret (.tup (.cons (.var 6) (.cons (.idx (.var 7) (.neg (.cst (.int 1)))) .nil))))
  .nil)) .nil)
  .nil)))
  (.cons (.ret (.cst (.str "NoRoom")))
  .nil)))))⟩
def F_law_reported : Fn := ⟨3, 6, (.cons (.ifs (.cmp .ne (.lc (.var 3) (.one 3) (.of (.var 2)) (.yes (.cmp .nin (.var 3) (.lst (.cons (.cst (.str "paper")) (.cons (.cst (.str "spoilt")) .nil))))) [3]) (.lst .nil)) (.cons (.ret (.cst (.str "NoWord")))
  .nil) .nil)
  (.cons (.asg (.one 4) (.idx (.idx (.var 0) (.cst (.str "lying"))) (.var 1)))
  (.cons (.ifs (.cmp .gt (.bi1 "len" (.var 2)) (.bi1 "len" (.var 4))) (.cons (.ret (.cst (.str "Short")))
  .nil) .nil)
  (.cons (.fors (.one 5) (.rng1 (.bi1 "len" (.var 2))) (.cons (.setI (.idx (.var 0) (.cst (.str "words"))) (.idx (.var 4) (.var 5)) (.idx (.var 2) (.var 5)))
  .nil))
  (.cons (.setI (.idx (.var 0) (.cst (.str "lying"))) (.var 1) (.slc (.var 4) (.yes (.bi1 "len" (.var 2))) .no))
  (.cons (.ret (.slc (.var 4) .no (.yes (.bi1 "len" (.var 2)))))
  .nil))))))⟩

def has (kvs : List (D × D)) (k : D) : Bool := kvs.any fun p => decide (p.1 = k)
theorem has_dget (kvs : List (D × D)) (k : D) : (dget kvs k).isSome = has kvs k := by
  unfold dget has
  induction kvs with
  | nil => rfl
  | cons a r ih =>
    rw [List.find?_cons, List.any_cons]
    cases decide (a.1 = k) with
    | true => rfl
    | false => exact ih
theorem has_dput (kvs : List (D × D)) (k v k' : D) : has (dput kvs k v) k' = (decide (k = k') || has kvs k') := by
  unfold dput
  split
  · rename_i h
    have e : has (kvs.map fun p => if p.1 = k then (p.1, v) else p) k' = has kvs k' := by
      unfold has
      rw [List.any_map]
      congr 1
      funext p
      show decide ((if p.1 = k then (p.1, v) else p).1 = k') = _
      split <;> rfl
    rw [e]
    by_cases z : k = k'
    · subst z
      unfold has
      rw [h]
      simp
    · simp [z]
  · unfold has
    rw [List.any_append, Bool.or_comm]
    simp
theorem dput_len (kvs : List (D × D)) (k v : D) : (dput kvs k v).length ≤ kvs.length + 1 := by
  unfold dput
  split
  · rw [List.length_map]; omega
  · rw [List.length_append]; simp
def putAll (kvs : List (D × D)) (row : List Int) : List (D × D) := row.foldl (fun a t => dput a (.int t) (.bl true)) kvs
theorem putAll_len : ∀ (row : List Int) (kvs : List (D × D)), (putAll kvs row).length ≤ kvs.length + row.length
  | [], kvs => Nat.le_refl _
  | a :: r, kvs => by
    have h1 := putAll_len r (dput kvs (.int a) (.bl true))
    have h2 := dput_len kvs (.int a) (.bl true)
    show (putAll (dput kvs (.int a) (.bl true)) r).length ≤ _
    rw [List.length_cons]; omega
theorem putAll_has (t : Int) : ∀ (row : List Int) (kvs : List (D × D)), has (putAll kvs row) (.int t) = (decide (t ∈ row) || has kvs (.int t))
  | [], kvs => rfl
  | a :: r, kvs => by
    show has (putAll (dput kvs (.int a) (.bl true)) r) (.int t) = _
    rw [putAll_has t r, has_dput]
    by_cases z : a = t
    · subst z; simp
    · have : ¬ (D.int a = .int t) := by intro h; cases h; exact z rfl
      simp [this, Ne.symm z]
def putRows (kvs : List (D × D)) (rows : List (List Int)) : List (D × D) := rows.foldl putAll kvs
theorem putRows_has (t : Int) : ∀ (rows : List (List Int)) (kvs : List (D × D)), has (putRows kvs rows) (.int t) = (rows.any (fun r => decide (t ∈ r)) || has kvs (.int t))
  | [], kvs => rfl
  | a :: r, kvs => by
    show has (putRows (putAll kvs a) r) (.int t) = _
    rw [putRows_has t r, putAll_has, List.any_cons]
    cases decide (t ∈ a) <;> simp
def Off.sum (X : Off) : Nat := (X.dsk.map fun k => k.lying.length).sum
@[scoped simp] theorem apart_ent (n : Nat) (ws : List Src) (l : List Nat) : apart (.ent n :: ws) l = apart ws l := Eq.trans rfl rfl
theorem ixN_nat {len j : Nat} (h : j < len) : L2.ixN len (j : Int) = some j := by
  unfold L2.ixN
  rw [if_pos (Int.natCast_nonneg j), if_pos (by exact_mod_cast h)]
  rfl
theorem atI_last {a : Type} {xs : List a} {k : Nat} (h : xs.length = k + 1) : L2.atI xs (-1) = xs[k]? := by
  unfold L2.atI L2.ixN
  rw [h, if_neg (by omega), if_pos (by omega)]
  show xs[(((k + 1 : Nat) : Int) + -1).toNat]? = _
  congr 1
  omega
@[scoped simp] theorem dict_od (kvs : List (D × D)) : bi1 "dict" (.od false kvs) = some (.od false kvs) := Eq.trans rfl rfl
section
variable {P : Prog} {W n : Nat} {s : Store}
theorem inner_loop {R : Runs} {a0 a1 a2 a4 a6 a7 : Option M} : ∀ (row : List Int) (kvs : List (D × D)) (o5 : Option M), (o5 = none ∨ ∃ d, o5 = some (.val d)) → kvs.length + row.length ≤ LIM → ∃ o5', (o5' = none ∨ ∃ d, o5' = some (.val d)) ∧ forL [] s (.one 5) (execs R W (.cons (.setI (.var 3) (.var 5) (.cst (.bl true))) .nil)) (row.map .int) [a0, a1, a2, some (.od false kvs), a4, o5, a6, a7] s = .ok .nx [a0, a1, a2, some (.od false (putAll kvs row)), a4, o5', a6, a7] s
  | [], kvs, o5, h, _ => ⟨o5, h, if_pos (still_nil _ _)⟩
  | a :: r, kvs, o5, h, hz => by
    rw [List.length_cons] at hz
    obtain ⟨o5', h1, h2⟩ := inner_loop (R := R) (a0 := a0) (a1 := a1) (a2 := a2) (a4 := a4) (a6 := a6) (a7 := a7) r (dput kvs (.int a) (.bl true)) (some (.val (.int a))) (.inr ⟨_, rfl⟩) (by
      have := dput_len kvs (.int a) (.bl true)
      omega)
    refine ⟨o5', h1, ?_⟩
    rw [List.map_cons, forL_cons, if_pos (still_nil _ _)]
    have : kvs.length < LIM := by omega
    simp [this]
    exact h2
theorem outer_loop {R : Runs} {a0 a1 a2 a6 a7 : Option M} {b : Nat} : ∀ (rows : List (List Int)) (kvs : List (D × D)) (o4 o5 : Option M), (o5 = none ∨ ∃ d, o5 = some (.val d)) → kvs.length + (rows.map List.length).sum ≤ LIM → ∃ o4' o5', (o5' = none ∨ ∃ d, o5' = some (.val d)) ∧ forL [.ent b] s (.one 4) (execs R W (.cons (.fors (.one 5) (.of (.var 4)) (.cons (.setI (.var 3) (.var 5) (.cst (.bl true))) .nil)) .nil)) (rows.map fun r => .lst (r.map .int)) [a0, a1, a2, some (.od false kvs), o4, o5, a6, a7] s = .ok .nx [a0, a1, a2, some (.od false (putRows kvs rows)), o4', o5', a6, a7] s
  | [], kvs, o4, o5, h, _ => ⟨o4, o5, h, if_pos (still_self _ _)⟩
  | a :: r, kvs, o4, o5, h, hz => by
    rw [List.map_cons, List.sum_cons] at hz
    obtain ⟨q5, g1, g2⟩ := inner_loop (s := s) (W := W) (R := R) (a0 := a0) (a1 := a1) (a2 := a2) (a4 := some (.val (.lst (a.map .int)))) (a6 := a6) (a7 := a7) a kvs o5 h (by omega)
    obtain ⟨q4, r5, h1, h2⟩ := outer_loop (R := R) (a0 := a0) (a1 := a1) (a2 := a2) (a6 := a6) (a7 := a7) (b := b) r (putAll kvs a) (some (.val (.lst (a.map .int)))) q5 g1 (by
      have := putAll_len a kvs
      omega)
    refine ⟨q4, r5, h1, ?_⟩
    rw [List.map_cons, forL_cons, if_pos (still_self _ _)]
    simp [g2]
    exact h2
theorem isin_od (kvs : List (D × D)) (t : Int) : cmp .isin (.val (.int t)) (.od false kvs) = some (has kvs (.int t)) := by
  rw [isIn_od, if_pos (keyOk_int t), has_dget]
def clash (kvs : List (D × D)) (i many : Int) : List Int := (rgI i (i + many)).filter fun t => has kvs (.int t)
/-- one place looked at -/
theorem fit_step {R : Runs} {j : Nat} {many : Int} {kvs : List (D × D)} {b : Nat} {rows : List (List Int)} {row : List Int} {vb vm : Nat} {md : List (D × D)} {o4 o5 : Option M} (i : Int) (o7 : Option M) (h5 : o5 = none ∨ ∃ d, o5 = some (.val d)) (hm1 : 1 ≤ many) (hm2 : many ≤ 400) (hi1 : 1 ≤ i) (hi2 : i ≤ 500)
    (hm : s[b + 3]? = some ⟨.dic false md, vm⟩) (hd : dget md (.str "lying") = some (.loc (b + 2))) (hb : s[b + 2]? = some ⟨.lst (rows.map fun r => .lst (r.map .int)), vb⟩) (hr : rows[j]? = some row) (hz : row.length + 400 ≤ LIM) : ∃ o7', execs R W (.cons (.asg (.one 7) (.lrange (.var 6) (.bin .add (.var 6) (.var 2))))
  (.cons (.ifs (.cmp .eq (.lc (.var 5) (.one 5) (.of (.var 7)) (.yes (.cmp .isin (.var 5) (.var 3))) [5]) (.lst .nil)) (.cons (.setI (.idx (.var 0) (.cst (.str "lying"))) (.var 1) (.bin .add (.idx (.idx (.var 0) (.cst (.str "lying"))) (.var 1)) (.var 7)))
  (.cons (.ret (.tup (.cons (.var 6) (.cons (.idx (.var 7) (.neg (.cst (.int 1)))) .nil))))
  .nil)) .nil)
  .nil)) [some (.val (.loc (b + 3))), some (.val (.int j)), some (.val (.int many)), some (.od false kvs), o4, o5, some (.val (.int i)), o7] s = if (clash kvs i many).isEmpty then .ok (.ret (.val (.tup [.int i, .int (i + many - 1)]))) [some (.val (.loc (b + 3))), some (.val (.int j)), some (.val (.int many)), some (.od false kvs), o4, o5, some (.val (.int i)), o7'] (s.set (b + 2) ⟨.lst ((rows.set j (row ++ rgI i (i + many))).map fun r => .lst (r.map .int)), vb + 1⟩)
   else .ok .nx [some (.val (.loc (b + 3))), some (.val (.int j)), some (.val (.int many)), some (.od false kvs), o4, o5, some (.val (.int i)), o7'] s := by
  refine ⟨some (.ol ((rgI i (i + many)).map .int)), ?_⟩
  have hj := (List.getElem?_eq_some_iff.mp hr).1
  have hlen : (rgI i (i + many)).length = many.toNat := by rw [rgI_len]; congr 1; omega
  have hL : many.toNat ≤ LIM := Nat.le_trans (show many.toNat ≤ 400 by omega) (by decide)
  have hro : rngOk (i + many - i) = true := decide_eq_true (by omega)
  have hlc : ∀ (e : Env), e = [some (.val (.loc (b + 3))), some (.val (.int j)), some (.val (.int many)), some (.od false kvs), o4, none, some (.val (.int i)), some (.ol ((rgI i (i + many)).map .int))] → lcL [.slot 7] s [5] (.one 5) (evc R (.yes (.cmp .isin (.var 5) (.var 3)))) (valD (ev R (.var 5))) ((rgI i (i + many)).map .int) [] e s = .ok ((clash kvs i many).map .int) e s := fun e he => by
    subst he
    rw [lc_filter (p := fun d => match d with | .int t => has kvs (.int t) | _ => false) (g := id) (by simp) [] fun x hx => ?_, List.nil_append, List.map_id]
    · unfold clash
      rw [List.filter_map]
      rfl
    obtain ⟨w, hw, rfl⟩ := List.mem_map.mp hx
    refine ⟨_, [some (.val (.loc (b + 3))), some (.val (.int j)), some (.val (.int many)), some (.od false kvs), o4, some (.val (.int w)), some (.val (.int i)), some (.ol ((rgI i (i + many)).map .int))], rfl, ?_, ?_⟩
    · simp [has_dget]
    · show if has kvs (.int w) = true then _ else _
      split
      · exact ⟨[some (.val (.loc (b + 3))), some (.val (.int j)), some (.val (.int many)), some (.od false kvs), o4, some (.val (.int w)), some (.val (.int i)), some (.ol ((rgI i (i + many)).map .int))], by simp, by simp [wipe]⟩
      · simp [wipe]
  have heq : cmp .eq (.ol ((clash kvs i many).map D.int)) (.ol []) = some (clash kvs i many).isEmpty := by
    rw [eq_L0 (a := .ol ((clash kvs i many).map D.int)) (xs := (clash kvs i many).map D.int) rfl (lay_ints _)]
    cases clash kvs i many <;> rfl
  have hw5 : wipeOk [some (.val (.loc (b + 3))), some (.val (.int j)), some (.val (.int many)), some (.od false kvs), o4, o5, some (.val (.int i)), some (.ol ((rgI i (i + many)).map .int))] [5] = true := by
    rcases h5 with rfl | ⟨d, rfl⟩ <;> rfl
  have hat : L2.atI (rows.map fun r => D.lst (r.map .int)) (j : Int) = some (.lst (row.map .int)) := by
    rw [atI_at (k := j) rfl (by rw [List.length_map]; exact hj), List.getElem?_map, hr]
    rfl
  have hlast : L2.atI ((rgI i (i + many)).map D.int) (-1) = some (.int (i + many - 1)) := by
    rw [atI_last (k := many.toNat - 1) (by rw [List.length_map, hlen]; omega), List.getElem?_map]
    unfold rgI
    rw [List.getElem?_map, List.getElem?_range (by omega)]
    show some (D.int _) = _
    congr 2
    show i + ((many.toNat - 1 : Nat) : Int) = _
    omega
  have hset : ((rows.map fun r => D.lst (r.map .int)).set j (.lst (row.map .int ++ (rgI i (i + many)).map .int))) = (rows.set j (row ++ rgI i (i + many))).map fun r => D.lst (r.map .int) := by
    rw [List.map_set, List.map_append]
  have hadd : bin .add (.val (.lst (row.map .int))) (.ol ((rgI i (i + many)).map .int)) = some (.ol (row.map .int ++ (rgI i (i + many)).map .int)) := bin_addL rfl rfl (by rw [List.length_map, List.length_map, hlen]; omega)
  simp [getI_ok' (i := i) (by omega) (by omega), getI_ok' (i := i + many) (by omega) (by omega), hro, rng_rgI, lcK, hw5, hlen, hL, wipe]
  rw [hlc _ rfl]
  simp [lcEnd, back, heq]
  by_cases hc : clash kvs i many = []
  · simp [hc, hm, hd, hb, hat, hadd, ixN_nat hj, hlast, List.map_set, List.map_append]
  · simp [hc]
def ffit (kvs : List (D × D)) (many : Int) : Nat → Int → Option Int
  | 0, _ => none
  | k + 1, i => if (clash kvs i many).isEmpty then some i else ffit kvs many k (i + 1)
theorem clash_empty {kvs : List (D × D)} {i many : Int} : (clash kvs i many).isEmpty = true ↔ ∀ t, i ≤ t → t < i + many → has kvs (.int t) = false := by
  unfold clash
  rw [List.isEmpty_iff, List.filter_eq_nil_iff]
  constructor
  · intro h t h1 h2
    have := h t (rgI_mem.mpr ⟨h1, h2⟩)
    simpa using this
  · intro h t ht
    obtain ⟨h1, h2⟩ := rgI_mem.mp ht
    rw [h t h1 h2]
    simp
theorem ffit_some {kvs : List (D × D)} {many q : Int} : ∀ {k : Nat} {i : Int}, ffit kvs many k i = some q → i ≤ q ∧ q < i + k ∧ (clash kvs q many).isEmpty = true ∧ ∀ p, i ≤ p → p < q → (clash kvs p many).isEmpty = false
  | 0, i, h => by cases h
  | k + 1, i, h => by
    unfold ffit at h
    split at h
    · rename_i hc
      cases h
      exact ⟨Int.le_refl _, by omega, hc, fun p h1 h2 => by omega⟩
    · rename_i hc
      obtain ⟨a, b, c, d⟩ := ffit_some h
      refine ⟨by omega, by omega, c, fun p h1 h2 => ?_⟩
      by_cases z : p = i
      · rw [z]; simpa using hc
      · exact d p (by omega) h2
theorem ffit_none {kvs : List (D × D)} {many : Int} : ∀ {k : Nat} {i : Int}, ffit kvs many k i = none → ∀ p, i ≤ p → p < i + k → (clash kvs p many).isEmpty = false
  | 0, i, h, p, h1, h2 => by omega
  | k + 1, i, h, p, h1, h2 => by
    unfold ffit at h
    split at h
    · cases h
    · rename_i hc
      by_cases z : p = i
      · rw [z]; simpa using hc
      · exact ffit_none h p (by omega) (by omega)
theorem ffit_block {X : Off} {kvs : List (D × D)} (hf : ∀ t, has kvs (.int t) = !X.free t) {many : Int} (hm : 1 ≤ many) : ffit kvs many (X.top - many + 1).toNat 1 = (X.block many).map fun x => x - many + 1 := by
  have hno : ∀ {p : Int}, (clash kvs p many).isEmpty = true → ∀ t, p ≤ t → t < p + many → X.free t = true := fun h t h1 h2 => by
    have := clash_empty.mp h t h1 h2
    rw [hf] at this
    simpa using this
  have hyes : ∀ {p : Int}, (clash kvs p many).isEmpty = false → ∃ t, p ≤ t ∧ t < p + many ∧ X.free t = false := fun {p} h => by
    by_cases z : ∃ t, p ≤ t ∧ t < p + many ∧ X.free t = false
    · exact z
    · exfalso
      have : (clash kvs p many).isEmpty = true := clash_empty.mpr fun t h1 h2 => by
        rw [hf]
        cases hx : X.free t with
        | true => rfl
        | false => exact absurd ⟨t, h1, h2, hx⟩ z
      rw [this] at h
      cases h
  cases hb : X.block many with
  | none =>
    cases hq : ffit kvs many (X.top - many + 1).toNat 1 with
    | none => rfl
    | some q =>
      obtain ⟨a, b, c, d⟩ := ffit_some hq
      obtain ⟨t, h1, h2, h3⟩ := block_none hm hb q a (by omega)
      rw [hno c t h1 h2] at h3
      cases h3
  | some x =>
    obtain ⟨h1, h2, h3, h4⟩ := block_some hm hb
    have he : (clash kvs (x - many + 1) many).isEmpty = true := clash_empty.mpr fun t g1 g2 => by
      rw [hf, h3 t (by omega) (by omega)]; rfl
    cases hq : ffit kvs many (X.top - many + 1).toNat 1 with
    | none =>
      have := ffit_none hq (x - many + 1) (by omega) (by omega)
      rw [he] at this
      cases this
    | some q =>
      obtain ⟨a, b, c, d⟩ := ffit_some hq
      rcases Int.lt_trichotomy q (x - many + 1) with z | z | z
      · obtain ⟨t, g1, g2, g3⟩ := h4 q a z
        rw [hno c t g1 g2] at g3
        cases g3
      · rw [z]; rfl
      · have := d (x - many + 1) (by omega) z
        rw [he] at this
        cases this
theorem fit_loop {R : Runs} {j : Nat} {many : Int} {kvs : List (D × D)} {b : Nat} {rows : List (List Int)} {row : List Int} {vb vm : Nat} {md : List (D × D)} {o4 o5 : Option M} (h5 : o5 = none ∨ ∃ d, o5 = some (.val d)) (hm1 : 1 ≤ many) (hm2 : many ≤ 400)
    (hm : s[b + 3]? = some ⟨.dic false md, vm⟩) (hd : dget md (.str "lying") = some (.loc (b + 2))) (hb : s[b + 2]? = some ⟨.lst (rows.map fun r => .lst (r.map .int)), vb⟩) (hr : rows[j]? = some row) (hz : row.length + 400 ≤ LIM) (T : Int) (hT : T ≤ 402) : ∀ (m : Nat) (i : Int) (o6 o7 : Option M), i + m = T → 1 ≤ i → ∃ e', forL [] s (.one 6) (execs R W (.cons (.asg (.one 7) (.lrange (.var 6) (.bin .add (.var 6) (.var 2))))
  (.cons (.ifs (.cmp .eq (.lc (.var 5) (.one 5) (.of (.var 7)) (.yes (.cmp .isin (.var 5) (.var 3))) [5]) (.lst .nil)) (.cons (.setI (.idx (.var 0) (.cst (.str "lying"))) (.var 1) (.bin .add (.idx (.idx (.var 0) (.cst (.str "lying"))) (.var 1)) (.var 7)))
  (.cons (.ret (.tup (.cons (.var 6) (.cons (.idx (.var 7) (.neg (.cst (.int 1)))) .nil))))
  .nil)) .nil)
  .nil))) (rng i T) [some (.val (.loc (b + 3))), some (.val (.int j)), some (.val (.int many)), some (.od false kvs), o4, o5, o6, o7] s = (match ffit kvs many m i with
      | some p => .ok (.ret (.val (.tup [.int p, .int (p + many - 1)]))) e' (s.set (b + 2) ⟨.lst ((rows.set j (row ++ rgI p (p + many))).map fun r => .lst (r.map .int)), vb + 1⟩)
      | none => .ok .nx e' s)
  | 0, i, o6, o7, h, h1 => by
    apply Exists.intro
    rw [rng_nil (by omega)]
    simp [ffit]
    rfl
  | m + 1, i, o6, o7, h, h1 => by
    obtain ⟨q7, hs⟩ := fit_step (R := R) (W := W) (kvs := kvs) (o4 := o4) i o7 h5 hm1 hm2 h1 (by omega) hm hd hb hr hz
    rw [rng_cons (by omega), forL_cons, if_pos (still_nil _ _)]
    unfold ffit
    by_cases hc : (clash kvs i many).isEmpty = true
    · apply Exists.intro
      rw [if_pos hc] at hs ⊢
      simp [hs]
      rfl
    · obtain ⟨e', ih⟩ := fit_loop (R := R) (kvs := kvs) (o4 := o4) h5 hm1 hm2 hm hd hb hr hz T hT m (i + 1) (some (.val (.int i))) q7 (by omega) (by omega)
      refine ⟨e', ?_⟩
      rw [if_neg hc] at hs ⊢
      simp [hs]
      simpa using ih
theorem wD_has (ws : List (Int × Str)) (t : Int) : has (wD ws) (.int t) = (wget ws t).isSome := by
  rw [← has_dget, dget_wD, Option.isSome_map]
theorem rows_free (X : Off) (t : Int) : has (putRows (wD X.words) (X.dsk.map Dsk.lying)) (.int t) = !X.free t := by
  rw [putRows_has, wD_has]
  unfold Off.free
  have h : (X.dsk.map Dsk.lying).any (fun r => decide (t ∈ r)) = !(X.holder t).isNone := by
    cases hh : X.holder t with
    | none =>
      have := holdG_none.mp hh
      simp
      exact this
    | some r =>
      obtain ⟨k, _, h2, h3⟩ := holdG_some hh
      simp
      exact ⟨k, List.mem_of_getElem? h2, h3⟩
  rw [h]
  cases wget X.words t <;> cases X.holder t <;> rfl
theorem lent_model (hl : look P "_law_lent" = some F_law_lent) {b : Nat} {X : Off} (A : ModAt b X s) {j : Nat} {k : Dsk} (hj : X.dsk[j]? = some k) (ht : X.top ≤ 400) (hz : X.words.length + X.sum ≤ LIM) (hk : k.lying.length + 400 ≤ LIM) (many : Int) : ∃ v, run P W (n + 1) "_law_lent" [.loc (b + 3), .int j, .int many] s = if many < 1 then .ok (.val (.str "NoCount")) s else (match X.block many with
    | some x => .ok (.val (.tup [.int (x - many + 1), .int x])) (s.set (b + 2) ⟨.lst ((X.setD j (k.lent (x - many + 1) x)).dsk.map fun k => .lst (k.lying.map .int)), v⟩)
    | none => .ok (.val (.str "NoRoom")) s) := by
  obtain ⟨vw, hw⟩ := A.w
  obtain ⟨vl, hly⟩ := A.ly
  obtain ⟨vd, hdi⟩ := A.di
  have hrows : (X.dsk.map fun k => D.lst (k.lying.map .int)) = (X.dsk.map Dsk.lying).map fun r => D.lst (r.map .int) := by rw [List.map_map]; rfl
  rw [hrows] at hly
  refine ⟨vl + 1, ?_⟩
  by_cases hm : many < 1
  · rw [run_eq hl rfl (by decide), if_pos hm]
    simp [F_law_lent, begun, hm, gc_self]
  · rw [run_eq hl rfl (by decide), if_neg hm]
    obtain ⟨q4, q5, h5, ho⟩ := outer_loop (s := s) (W := W) (R := run P W n) (a0 := some (.val (.loc (b + 3)))) (a1 := some (.val (.int j))) (a2 := some (.val (.int many))) (a6 := none) (a7 := none) (b := b + 2) (X.dsk.map Dsk.lying) (wD X.words) none none (.inl rfl) (by
      rw [wD_len, List.map_map]
      exact hz)
    have hly2 := hly
    rw [List.map_map] at hly2 ho
    by_cases hM : many ≤ 400
    · by_cases hT : 1 ≤ X.top - many + 2
      · obtain ⟨e', hf⟩ := fit_loop (W := W) (R := run P W n) (kvs := putRows (wD X.words) (X.dsk.map Dsk.lying)) (o4 := q4) (j := j) (row := k.lying) h5 (by omega) hM hdi (by simp) hly (by rw [List.getElem?_map, hj]; rfl) hk (X.top - many + 2) (by omega) (X.top - many + 1).toNat 1 none none (by omega) (by omega)
        rw [ffit_block (rows_free X) (by omega)] at hf
        simp [F_law_lent, begun, hm, hw, hly2, hdi, itK_loc _ hly2, ho]
        rw [hf]
        cases X.block many with
        | none => simp [gc_self]
        | some x =>
          have e1 : x - many + 1 + many = x + 1 := by omega
          have e2 : x - many + 1 + many - 1 = x := by omega
          simp [gc_len, e1, Off.setD, List.map_set, Dsk.lent]
          rfl
      · have hb : X.block many = none := by
          cases hb : X.block many with
          | none => rfl
          | some x =>
            obtain ⟨h1, h2, _, _⟩ := block_some (by omega) hb
            omega
        rw [hb]
        simp [F_law_lent, begun, hm, hw, hly2, hdi, itK_loc _ hly2, ho, rng_nil (show X.top - many + 2 ≤ 1 by omega), gc_self]
    · have hb : X.block many = none := by
        cases hb : X.block many with
        | none => rfl
        | some x =>
          obtain ⟨h1, h2, _, _⟩ := block_some (by omega) hb
          omega
      rw [hb]
      simp [F_law_lent, begun, hm, hw, hly2, hdi, itK_loc _ hly2, ho, rng_nil (show X.top - many + 2 ≤ 1 by omega), gc_self]
theorem zip_take {α β : Type} : ∀ (xs : List α) (ys : List β), (xs.take ys.length).zip ys = xs.zip ys
  | [], ys => by simp
  | x :: xs, [] => by simp
  | x :: xs, y :: ys => by
    rw [List.length_cons, List.take_succ_cons, List.zip_cons_cons, List.zip_cons_cons, zip_take xs ys]
/-! numbers reported -/
theorem rep_loop {R : Runs} {b : Nat} {row : List Int} {ws : List Str} {md : List (D × D)} {vm : Nat} {a1 a3 : Option M} (hd : dget md (.str "words") = some (.loc b)) (hz : ws.length ≤ row.length) : ∀ (m i : Nat) (W0 : List (Int × Str)) (s : Store) (v : Nat) (o5 : Option M), i + m = ws.length → s[b]? = some ⟨.dic false (wD W0), v⟩ → s[b + 3]? = some ⟨.dic false md, vm⟩ → W0.length + m ≤ LIM → ∃ o5' v', forL [] s (.one 5) (execs R W (.cons (.setI (.idx (.var 0) (.cst (.str "words"))) (.idx (.var 4) (.var 5)) (.idx (.var 2) (.var 5))) .nil)) (rng i ws.length) [some (.val (.loc (b + 3))), a1, some (.val (.lst (ws.map .str))), a3, some (.val (.lst (row.map .int))), o5] s = .ok .nx [some (.val (.loc (b + 3))), a1, some (.val (.lst (ws.map .str))), a3, some (.val (.lst (row.map .int))), o5'] (s.set b ⟨.dic false (wD (wputs W0 ((row.zip ws).drop i))), v'⟩)
  | 0, i, W0, s, v, o5, h, hb, hm, hl => by
    refine ⟨o5, v, ?_⟩
    rw [rng_nil (by omega), List.drop_eq_nil_of_le (by rw [List.length_zip]; omega)]
    have : s.set b ⟨.dic false (wD W0), v⟩ = s := by
      obtain ⟨h1, h2⟩ := List.getElem?_eq_some_iff.mp hb
      rw [← h2]; exact List.set_getElem_self h1
    simp [wputs, this]
  | m + 1, i, W0, s, v, o5, h, hb, hm, hl => by
    have hi : i < ws.length := by omega
    have hi2 : i < row.length := by omega
    have hlt := (List.getElem?_eq_some_iff.mp hb).1
    obtain ⟨q5, v', ih⟩ := rep_loop hd hz m (i + 1) (wput W0 row[i] ws[i]) (s.set b ⟨.dic false (wD (wput W0 row[i] ws[i])), v + 1⟩) (v + 1) (some (.val (.int i))) (by omega) (List.getElem?_set_self hlt) (by rw [List.getElem?_set_ne (by omega)]; exact hm) (by
      have := wput_len W0 row[i] ws[i]
      omega)
    refine ⟨q5, v', ?_⟩
    have h1 : L2.atI (row.map D.int) (i : Int) = some (.int row[i]) := by
      rw [atI_at (k := i) rfl (by rw [List.length_map]; exact hi2), List.getElem?_map, List.getElem?_eq_getElem hi2]; rfl
    have h2 : L2.atI (ws.map D.str) (i : Int) = some (.str ws[i]) := by
      rw [atI_at (k := i) rfl (by rw [List.length_map]; exact hi), List.getElem?_map, List.getElem?_eq_getElem hi]; rfl
    have hL : W0.length < LIM := by omega
    rw [rng_cons (by omega), forL_cons, if_pos (still_nil _ _)]
    have hdr : (row.zip ws).drop i = (row[i], ws[i]) :: (row.zip ws).drop (i + 1) := by
      rw [List.drop_eq_getElem_cons (by rw [List.length_zip]; omega), List.getElem_zip]
    rw [hdr]
    simp [hm, hd, hb, h1, h2, wD_len, hL]
    have hs0 : ∀ (s0 s1 : Store) (l : List D) (e : Env) (s' : Store) (b : Env → Store → Res Flow) (t : Tg), forL [] s0 t b l e s' = forL [] s1 t b l e s' := fun s0 s1 l e s' b t => by
      induction l generalizing e s' with
      | nil => rfl
      | cons x l ih =>
        rw [forL_cons, forL_cons]
        rw [if_pos (still_nil _ _), if_pos (still_nil _ _)]
        cases store t (.val x) e with
        | none => rfl
        | some e1 =>
          show Res.bind _ _ = Res.bind _ _
          cases b e1 s' with
          | ok f e s => cases f with
            | nx => exact ih e s
            | ret m => rfl
          | err c e s => rfl
          | bad => rfl
    rw [hs0 s (s.set b ⟨.dic false (wD (wput W0 row[i] ws[i])), v + 1⟩)]
    push_cast at ih
    rw [ih, List.set_set]
    rfl
theorem reported_model (hl : look P "_law_reported" = some F_law_reported) {b : Nat} {X : Off} (A : ModAt b X s) {j : Nat} {k : Dsk} (hj : X.dsk[j]? = some k) (ws : List Str) (hw : ∀ w ∈ ws, (D.str w).lay = true) (h1 : ws.length ≤ 1000000) (h2 : X.words.length + ws.length ≤ LIM) : ∃ v1 v2, run P W (n + 1) "_law_reported" [.loc (b + 3), .int j, .lst (ws.map .str)] s = if (ws.filter wnew).isEmpty = false then .ok (.val (.str "NoWord")) s else if k.lying.length < ws.length then .ok (.val (.str "Short")) s else .ok (.ol ((k.lying.take ws.length).map .int)) ((s.set b ⟨.dic false (wD (wputs X.words ((k.lying.take ws.length).zip ws))), v1⟩).set (b + 2) ⟨.lst ((X.setD j (k.rep ws.length)).dsk.map fun k => .lst (k.lying.map .int)), v2⟩) := by
  obtain ⟨vw, hwd⟩ := A.w
  obtain ⟨vl, hly⟩ := A.ly
  obtain ⟨vd, hdi⟩ := A.di
  have hjl := (List.getElem?_eq_some_iff.mp hj).1
  have hL : ws.length ≤ LIM := Nat.le_trans h1 (by decide)
  have hlc : ∀ (R : Runs) (e : Env) (a0 a1 a4 a5 : Option M), e = [a0, a1, some (.val (.lst (ws.map .str))), none, a4, a5] → lcL [] s [3] (.one 3) (evc R (.yes (.cmp .nin (.var 3) (.lst (.cons (.cst (.str "paper")) (.cons (.cst (.str "spoilt")) .nil)))))) (valD (ev R (.var 3))) (ws.map .str) [] e s = .ok ((ws.filter wnew).map .str) e s := fun R e a0 a1 a4 a5 he => by
    subst he
    rw [lc_filter (p := wnewD) (g := id) (by simp) [] fun x hx => ?_, List.nil_append, filt_strs]
    obtain ⟨w, hw, rfl⟩ := List.mem_map.mp hx
    have hn : cmp .nin (.val (.str w)) (.ol [.str "paper", .str "spoilt"]) = some (wnew w) := nin_of (isin_strL w WORDSd)
    refine ⟨_, [a0, a1, some (.val (.lst (ws.map .str))), some (.val (.str w)), a4, a5], rfl, ?_, ?_⟩
    · simp [hn, wnewD]
    · show if wnew w = true then _ else _
      split
      · exact ⟨[a0, a1, some (.val (.lst (ws.map .str))), some (.val (.str w)), a4, a5], by simp, by simp [wipe]⟩
      · simp [wipe]
  have hne : cmp .ne (.ol ((ws.filter wnew).map D.str)) (.ol []) = some (!(ws.filter wnew).isEmpty) := by
    rw [ne_L0 (a := .ol ((ws.filter wnew).map D.str)) (xs := (ws.filter wnew).map D.str) rfl (lay_strs fun x hx => hw x (List.mem_filter.mp hx).1)]
    cases ws.filter wnew <;> rfl
  have hat : L2.atI (X.dsk.map fun k => D.lst (k.lying.map .int)) (j : Int) = some (.lst (k.lying.map .int)) := by
    rw [atI_at (k := j) rfl (by rw [List.length_map]; exact hjl), List.getElem?_map, hj]
    rfl
  by_cases c1 : (ws.filter wnew).isEmpty = false
  · refine ⟨0, 0, ?_⟩
    rw [run_eq hl rfl (by decide), if_pos c1]
    simp [F_law_reported, begun, lcK, wipeOk, hL, wipe]
    rw [hlc (run P W n) _ _ _ _ _ rfl]
    simp [lcEnd, back, hne, c1, gc_self]
  · by_cases c2 : k.lying.length < ws.length
    · refine ⟨0, 0, ?_⟩
      rw [run_eq hl rfl (by decide), if_neg c1, if_pos c2]
      simp [F_law_reported, begun, lcK, wipeOk, hL, wipe]
      rw [hlc (run P W n) _ _ _ _ _ rfl]
      simp [lcEnd, back, hne, c1, gc_self, hdi, hly, hat, c2]
    · obtain ⟨q5, v', hr⟩ := rep_loop (W := W) (R := run P W n) (a1 := some (.val (.int j))) (a3 := none) (row := k.lying) (ws := ws) (b := b) (md := [(.str "top", .int X.top), (.str "words", .loc b), (.str "seen", .loc (b + 1)), (.str "lying", .loc (b + 2)), (.str "goes", .loc (b + 4)), (.str "low", .loc (b + 5))]) (vm := vd) (by simp) (by omega) ws.length 0 X.words s vw none (by omega) hwd hdi (by omega)
      have hz : (k.lying.take ws.length).zip ws = k.lying.zip ws := by
        exact zip_take _ _
      refine ⟨v', vl + 1, ?_⟩
      have hs2 : ∀ en : Ent, (s.set b en)[b + 2]? = some ⟨.lst (X.dsk.map fun k => .lst (k.lying.map .int)), vl⟩ := fun en => by rw [List.getElem?_set_ne (by omega)]; exact hly
      have hs3 : ∀ en : Ent, (s.set b en)[b + 3]? = s[b + 3]? := fun en => List.getElem?_set_ne (by omega)
      rw [run_eq hl rfl (by decide), if_neg c1, if_neg c2, hz]
      push_cast at hr
      rw [List.drop_zero] at hr
      simp [F_law_reported, begun, lcK, wipeOk, hL, wipe]
      rw [hlc (run P W n) _ _ _ _ _ rfl]
      simp [lcEnd, back, hne, c1, hdi, hly, hat, c2, getI_ok' (i := (ws.length : Int)) (by omega) (by omega)]
      rw [hr]
      simp [hs2, hs3, hdi, cut_drop, cut_take, gc_len, ixN_nat hjl, Off.setD, List.map_set, Dsk.rep]
end
end OI.Y

/-! OF6: deeds, as the office does them and as the laws' model does. -/
namespace OI.Y
open PySem (Str)
def F_law_does : Fn := ⟨2, 2, (.cons (.ifs (.cmp .eq (.idx (.var 1) (.cst (.int 0))) (.cst (.str "lend"))) (.cons (.ret (.meth (.var 0) "Office" "lend" (.cons (.idx (.var 1) (.cst (.int 1))) (.cons (.idx (.var 1) (.cst (.int 2))) .nil))))
  .nil) .nil)
  (.cons (.ifs (.cmp .eq (.idx (.var 1) (.cst (.int 0))) (.cst (.str "report"))) (.cons (.ret (.meth (.var 0) "Office" "report" (.cons (.idx (.var 1) (.cst (.int 1))) (.cons (.bi1 "list" (.idx (.var 1) (.cst (.int 2)))) .nil))))
  .nil) .nil)
  (.cons (.ifs (.cmp .eq (.idx (.var 1) (.cst (.int 0))) (.cst (.str "back"))) (.cons (.ret (.meth (.var 0) "Office" "back" (.cons (.idx (.var 1) (.cst (.int 1))) .nil)))
  .nil) .nil)
  (.cons (.ifs (.cmp .eq (.idx (.var 1) (.cst (.int 0))) (.cst (.str "stop"))) (.cons (.ret (.meth (.var 0) "Office" "stop" (.cons (.idx (.var 1) (.cst (.int 1))) .nil)))
  .nil) .nil)
  (.cons (.ifs (.cmp .eq (.idx (.var 1) (.cst (.int 0))) (.cst (.str "found"))) (.cons (.ret (.meth (.var 0) "Office" "found" (.cons (.idx (.var 1) (.cst (.int 1))) .nil)))
  .nil) .nil)
  (.cons (.ret (.meth (.var 0) "Office" "settle" (.cons (.idx (.var 1) (.cst (.int 1))) (.cons (.idx (.var 1) (.cst (.int 2))) .nil))))
  .nil))))))⟩
def F_law_told : Fn := ⟨2, 5, (.cons (.tryA (.cons (.ret (.call "_law_does" (.cons (.var 0) (.cons (.var 1) .nil))))
  .nil) ["GapError", "NoOffice", "NoDesk", "Stopped", "NoRoom", "NoCount", "NoWord", "Short", "NoNumber", "Twice", "NotThere", "NoWorld", "NoBox"] "GapError" 2 (.cons (.asg (.one 3) (.lst (.cons (.cst (.str "NoDesk")) (.cons (.cst (.str "Stopped")) (.cons (.cst (.str "NoRoom")) (.cons (.cst (.str "NoCount")) (.cons (.cst (.str "NoWord")) (.cons (.cst (.str "Short")) (.cons (.cst (.str "NoNumber")) (.cons (.cst (.str "Twice")) (.cons (.cst (.str "NotThere")) .nil)))))))))))
  (.cons (.asg (.one 4) (.lst (.cons (.isi (.var 2) true [.own "NoDesk"]) (.cons (.isi (.var 2) true [.own "Stopped"]) (.cons (.isi (.var 2) true [.own "NoRoom"]) (.cons (.isi (.var 2) true [.own "NoCount"]) .nil))))))
  (.cons (.asg (.one 4) (.bin .add (.var 4) (.lst (.cons (.isi (.var 2) true [.own "NoWord"]) (.cons (.isi (.var 2) true [.own "Short"]) (.cons (.isi (.var 2) true [.own "NoNumber"]) (.cons (.isi (.var 2) true [.own "Twice"]) .nil)))))))
  (.cons (.mut1 "append" (.var 4) (.isi (.var 2) true [.own "NotThere"]))
  (.cons (.ifs (.either (.cmp .ne (.bm1 "count" (.var 4) (.cst (.bl true))) (.cst (.int 1))) (.either (.isi (.var 2) false [.own "NoBox", .own "NoOffice", .own "NoWorld"]) (.nott (.isi (.var 2) true [.valueError])))) (.cons (.ret (.cst (.str "other")))
  .nil) .nil)
  (.cons (.ret (.idx (.var 3) (.bm1 "index" (.var 4) (.cst (.bl true)))))
  .nil)))))))
  .nil)⟩
def F_law_is : Fn := ⟨2, 4, (.cons (.fors (.one 2) (.rng1 (.bi1 "len" (.idx (.var 1) (.cst (.str "lying"))))) (.cons (.asg (.one 3) (.lst (.cons (.bi1 "list" (.idx (.idx (.var 1) (.cst (.str "lying"))) (.var 2))) (.cons (.lst .nil) .nil))))
  (.cons (.ifs (.nott (.idx (.idx (.var 1) (.cst (.str "goes"))) (.var 2))) (.cons (.mut0 "reverse" (.var 3))
  .nil) .nil)
  (.cons (.ifs (.nott (.call "_law_same" (.cons (.lst (.cons (.meth (.var 0) "Office" "open_numbers" (.cons (.var 2) .nil)) (.cons (.meth (.var 0) "Office" "rest" (.cons (.var 2) .nil)) .nil))) (.cons (.var 3) .nil)))) (.cons (.ret (.cst (.bl false)))
  .nil) .nil)
  .nil))))
  (.cons (.ret (.cst (.bl true)))
  .nil))⟩

def F2_law_due : Fn := ⟨2, 4, (.cons (.asg (.one 2) (.idx (.var 1) (.cst (.int 1))))
  (.cons (.ifs (.cmp .eq (.idx (.var 1) (.cst (.int 0))) (.cst (.str "lend"))) (.cons (.ret (.call "_law_lent" (.cons (.var 0) (.cons (.var 2) (.cons (.idx (.var 1) (.cst (.int 2))) .nil)))))
  .nil) .nil)
  (.cons (.ifs (.cmp .eq (.idx (.var 1) (.cst (.int 0))) (.cst (.str "report"))) (.cons (.ret (.call "_law_reported" (.cons (.var 0) (.cons (.var 2) (.cons (.idx (.var 1) (.cst (.int 2))) .nil)))))
  .nil) .nil)
  (.cons (.asg (.one 3) (.idx (.idx (.var 0) (.cst (.str "lying"))) (.var 2)))
  (.cons (.setI (.idx (.var 0) (.cst (.str "lying"))) (.var 2) (.lst .nil))
  (.cons (.ret (.bi1 "sorted" (.var 3)))
  .nil))))))⟩
inductive Deed where
  | lend (j : Nat) (many : Int)
  | report (j : Nat) (ws : List Str)
  | back (j : Nat)
def Deed.d : Deed → D
  | .lend j m => .tup [.str "lend", .int j, .int m]
  | .report j ws => .tup [.str "report", .int j, .lst (ws.map .str)]
  | .back j => .tup [.str "back", .int j]
def Deed.j : Deed → Nat
  | .lend j _ => j
  | .report j _ => j
  | .back j => j
/-- an answer -/
inductive Ans where
  | tup (a b : Int)
  | lst (ns : List Int)
  | non
  | err (c : String)
def Ans.m : Ans → M
  | .tup a b => .val (.tup [.int a, .int b])
  | .lst ns => .ol (ns.map .int)
  | .non => .val .non
  | .err c => .val (.str (Str.ofString c))
def Ans.rr (a : Ans) (s : Store) : RR :=
  match a with
  | .err c => .err c s
  | a => .ok a.m s
/-- what a deed does at a desk that goes -/
def act (X : Off) (k : Dsk) : Deed → Off × Ans
  | .lend j many => if many < 1 then (X, .err "NoCount") else (match X.block many with
    | some x => (X.setD j (k.lent (x - many + 1) x), .tup (x - many + 1) x)
    | none => (X, .err "NoRoom"))
  | .report j ws => if (ws.filter wnew).isEmpty = false then (X, .err "NoWord") else if k.lying.length < ws.length then (X, .err "Short") else (({ X with words := wputs X.words ((k.lying.take ws.length).zip ws) } : Off).setD j (k.rep ws.length), .lst (k.lying.take ws.length))
  | .back j => (X.setD j k.cleared, .lst (sortI k.lying))
/-- a deed that is not too great -/
def Deed.ok (X : Off) (k : Dsk) : Deed → Prop
  | .lend _ _ => k.lying.length + 400 ≤ LIM ∧ X.top ≤ 400 ∧ X.words.length + X.sum ≤ LIM
  | .report _ ws => (∀ w ∈ ws, (D.str w).lay = true) ∧ ws.length ≤ 1000000 ∧ X.words.length + ws.length ≤ LIM
  | .back _ => True
section
variable {P : Prog} {W n : Nat} {s : Store} {o : Nat} {dl : List Nat} {X : Off}
theorem does_ok (p : OfB P) (hl : look P "_law_does" = some F_law_does) (A : OffAt o dl X s) (hz : X.dsk.length ≤ LIM) (w : Deed) {k : Dsk} (h : X.dsk[w.j]? = some k) (hg : k.goes = true) (hw : w.ok X k) : ∃ s', run P W (n + 4) "_law_does" [.loc o, w.d] s = (act X k w).2.rr s' ∧ OffAt o dl (act X k w).1 s' ∧ Fix (o :: dl) s s' := by
  obtain ⟨d, v, hj, hd, _⟩ := A.at_ h
  obtain ⟨vo, hv⟩ := A.off
  have hdm : d ∈ o :: dl := List.mem_cons_of_mem _ (List.mem_of_getElem? hj)
  rw [run_eq hl rfl (by decide)]
  cases w with
  | lend j many =>
    obtain ⟨w1, w2, w3⟩ := hw
    change X.dsk[j]? = some k at h
    change dl[j]? = some d at hj
    have hr := lend_ok (W := W) (n := n) p A hz w2 h hj hd hg w1 many
    show ∃ s', _ ∧ OffAt o dl (act X k (.lend j many)).1 s' ∧ _
    by_cases c1 : many < 1
    · rw [if_pos c1] at hr
      refine ⟨s, ?_, by simpa [act, c1] using A, Fix.refl _ _⟩
      simp [F_law_does, begun, Deed.d, hv, offF, hr, act, c1, Ans.rr, gc_self]
    · rw [if_neg c1] at hr
      cases hb : X.block many with
      | none =>
        rw [hb] at hr
        refine ⟨s, ?_, by simpa [act, c1, hb] using A, Fix.refl _ _⟩
        simp [F_law_does, begun, Deed.d, hv, offF, hr, act, c1, hb, Ans.rr, gc_self]
      | some x =>
        rw [hb] at hr
        refine ⟨_, ?_, by simpa [act, c1, hb] using A.setDesk hj (k.lent (x - many + 1) x) (v + 1), Fix.set hdm⟩
        simp [F_law_does, begun, Deed.d, hv, offF, hr, act, c1, hb, Ans.rr, Ans.m, gc_len]
  | report j ws =>
    obtain ⟨w1, w2, w3⟩ := hw
    change X.dsk[j]? = some k at h
    change dl[j]? = some d at hj
    obtain ⟨v1, v2, hr⟩ := report_ok (W := W) (n := n) p A h hj hd hg ws w1 (Nat.le_trans w2 (by decide)) w3
    by_cases c1 : (ws.filter wnew).isEmpty = false
    · rw [if_pos c1] at hr
      refine ⟨s, ?_, by simpa [act, c1] using A, Fix.refl _ _⟩
      simp [F_law_does, begun, Deed.d, hv, offF, hr, act, c1, Ans.rr, gc_self]
    · rw [if_neg c1] at hr
      by_cases c2 : k.lying.length < ws.length
      · rw [if_pos c2] at hr
        refine ⟨s, ?_, by simpa [act, c1, c2] using A, Fix.refl _ _⟩
        simp [F_law_does, begun, Deed.d, hv, offF, hr, act, c1, c2, Ans.rr, gc_self]
      · rw [if_neg c2] at hr
        refine ⟨_, ?_, by simpa [act, c1, c2] using (A.setOff (X' := { X with words := wputs X.words ((k.lying.take ws.length).zip ws) }) rfl v1).setDesk hj (k.rep ws.length) v2, (Fix.set (List.mem_cons_self ..)).trans (Fix.set hdm)⟩
        simp [F_law_does, begun, Deed.d, hv, offF, hr, act, c1, c2, Ans.rr, Ans.m, gc_len]
  | back j =>
    change X.dsk[j]? = some k at h
    change dl[j]? = some d at hj
    have hr := back_ok (W := W) (n := n) p A h hj hd hg
    refine ⟨_, ?_, A.setDesk hj k.cleared (v + 1), Fix.set hdm⟩
    simp [F_law_does, begun, Deed.d, hv, offF, hr, act, Ans.rr, Ans.m, gc_len]
def errs : List String := ["NoDesk", "Stopped", "NoRoom", "NoCount", "NoWord", "Short", "NoNumber", "Twice", "NotThere"]
def Ans.told (a : Ans) : Prop := match a with
  | .err c => c ∈ errs
  | _ => True
theorem act_told (X : Off) (k : Dsk) (w : Deed) : (act X k w).2.told := by
  cases w with
  | lend j many =>
    unfold act
    dsimp only
    split
    · show _ ∈ errs; decide
    · split
      · trivial
      · show _ ∈ errs; decide
  | report j ws =>
    unfold act
    dsimp only
    split
    · show _ ∈ errs; decide
    · split
      · show _ ∈ errs; decide
      · trivial
  | back j => trivial
theorem add_olol (xs ys : List D) : bin .add (.ol xs) (.ol ys) = if xs.length + ys.length ≤ LIM then some (.ol (xs ++ ys)) else none := rfl
theorem bm1_cnt (ys : List D) (b : Bool) : bm1 "count" (.ol ys) (.val (.bl b)) = if ys.all (fun y => match y with | .bl _ => true | _ => false) then some (.val (.int (ys.countP fun y => decide (y = .bl b)))) else none := rfl
theorem bm1_idx (ys : List D) (d : D) : bm1 "index" (.ol ys) (.val d) = if d.flat && ys.all D.flat then (findIx d ys 0).map fun i => .val (.int i) else none := by
  show (if (d.flat && ys.all D.flat) = true then Option.map (fun i : Int => M.val (.int i)) (Option.bind (findIx d ys 0) fun a => some (a : Int)) else none) = _
  cases findIx d ys 0 <;> rfl
theorem eqv_bl (a b : Bool) : eqv (.bl a) (.bl b) = (a == b) := by cases a <;> cases b <;> rfl
theorem tyIs_own (s : Store) (c k : String) : tyIs s (.exn c) (.own k) = some (isSub c k) := rfl
@[scoped simp] theorem tyIs_ve (s : Store) (c : String) : tyIs s (.exn c) .valueError = some true := Eq.trans rfl rfl
def toldH : ISs := match F_law_told.body with | .cons (.tryA _ _ _ _ h) _ => h | _ => .nil
theorem told_body : F_law_told.body = .cons (.tryA (.cons (.ret (.call "_law_does" (.cons (.var 0) (.cons (.var 1) .nil)))) .nil) ["GapError", "NoOffice", "NoDesk", "Stopped", "NoRoom", "NoCount", "NoWord", "Short", "NoNumber", "Twice", "NotThere", "NoWorld", "NoBox"] "GapError" 2 toldH) .nil := rfl
theorem told_bad (R : Runs) (W : Nat) (a b : Option M) (c : String) (hc : c ∈ errs) : ∃ e', caught 2 s (execs R W toldH [a, b, some (.val (.exn c)), none, none] s) = .ok (.ret (.val (.str (Str.ofString c)))) e' s := by
  simp only [errs, List.mem_cons, List.not_mem_nil, or_false] at hc
  rcases hc with rfl | rfl | rfl | rfl | rfl | rfl | rfl | rfl | rfl
  all_goals
    apply Exists.intro
    simp [toldH, F_law_told, exec, tyIs_own, isSub, add_olol, bm1_cnt, bm1_idx, findIx, eqv_bl, D.flat, caught, D.noEx, LIM]
    rfl
theorem told_ok (p : OfB P) (hl : look P "_law_does" = some F_law_does) (hl2 : look P "_law_told" = some F_law_told) (A : OffAt o dl X s) (hz : X.dsk.length ≤ LIM) (w : Deed) {k : Dsk} (h : X.dsk[w.j]? = some k) (hg : k.goes = true) (hw : w.ok X k) : ∃ s', run P W (n + 5) "_law_told" [.loc o, w.d] s = .ok (act X k w).2.m s' ∧ OffAt o dl (act X k w).1 s' ∧ Fix (o :: dl) s s' := by
  obtain ⟨s', h1, h2, h3⟩ := does_ok (W := W) (n := n) p hl A hz w h hg hw
  have ht := act_told X k w
  revert h1 h2 ht
  generalize act X k w = a
  obtain ⟨X', a⟩ := a
  intro h1 h2 ht
  have hvd : ∃ en, w.d = .tup en := by cases w <;> exact ⟨_, rfl⟩
  obtain ⟨en, hvd⟩ := hvd
  have good : ∀ m, run P W (n + 4) "_law_does" [.loc o, w.d] s = .ok m s' → run P W (n + 5) "_law_told" [.loc o, w.d] s = .ok m s' := fun m hm => by
    rw [hvd] at hm ⊢
    rw [run_eq hl2 rfl (by decide)]
    simp [F_law_told, begun, exec, hm, gc_len, h3.1]
  refine ⟨s', ?_, h2, h3⟩
  cases a with
  | tup a b => exact good _ h1
  | lst ns => exact good _ h1
  | non => exact good _ h1
  | err c =>
    have h1 : run P W (n + 4) "_law_does" [.loc o, w.d] s = .err c s' := h1
    obtain ⟨e', hb⟩ := told_bad (s := s') (run P W (n + 4)) W (some (.val (.loc o))) (some (.val w.d)) c ht
    rw [hvd] at h1 hb ⊢
    have hct : (["GapError", "NoOffice", "NoDesk", "Stopped", "NoRoom", "NoCount", "NoWord", "Short", "NoNumber", "Twice", "NotThere", "NoWorld", "NoBox"] : List String).contains c = true ∧ isSub c "GapError" = true := by
      refine ⟨?_, by unfold isSub; simp⟩
      have : c ∈ errs := ht
      simp only [errs, List.mem_cons, List.not_mem_nil, or_false] at this
      rcases this with rfl | rfl | rfl | rfl | rfl | rfl | rfl | rfl | rfl <;> rfl
    rw [run_eq hl2 rfl (by decide), show begun F_law_told [.loc o, .tup en] = [some (.val (.loc o)), some (.val (.tup en)), none, none, none] from rfl, told_body]
    simp [exec, h1, hct.2]
    rw [if_pos (by simpa using hct.1)]
    rw [hb]
    simp [gc_len, h3.1, Ans.m]
end
/-! the model goes on -/
theorem set_same {α : Type} {xs : List α} {j : Nat} {a : α} (h : xs[j]? = some a) : xs.set j a = xs := by
  obtain ⟨h1, h2⟩ := List.getElem?_eq_some_iff.mp h
  rw [← h2]; exact List.set_getElem_self h1
theorem ModAt.fix {b : Nat} {X : Off} {s s' : Store} {L : List Nat} (A : ModAt b X s) (f : Fix L s s') (h : ∀ n, b ≤ n → n ≤ b + 5 → n ∉ L) : ModAt b X s' where
  w := by rw [f.2 _ (h _ (by omega) (by omega))]; exact A.w
  se := by rw [f.2 _ (h _ (by omega) (by omega))]; exact A.se
  ly := by rw [f.2 _ (h _ (by omega) (by omega))]; exact A.ly
  di := by rw [f.2 _ (h _ (by omega) (by omega))]; exact A.di
  go := by rw [f.2 _ (h _ (by omega) (by omega))]; exact A.go
  lo := by rw [f.2 _ (h _ (by omega) (by omega))]; exact A.lo
theorem ModAt.app {b : Nat} {X : Off} {s : Store} (A : ModAt b X s) (t : Store) : ModAt b X (s ++ t) := by
  have g : ∀ (n : Nat) (e : Ent), s[n]? = some e → (s ++ t)[n]? = some e := fun n e h => by
    rw [List.getElem?_append_left (List.getElem?_eq_some_iff.mp h).1]; exact h
  obtain ⟨⟨v1, h1⟩, ⟨v2, h2⟩, ⟨v3, h3⟩, ⟨v4, h4⟩, ⟨v5, h5⟩, ⟨v6, h6⟩⟩ := A
  exact ⟨⟨_, g _ _ h1⟩, ⟨_, g _ _ h2⟩, ⟨_, g _ _ h3⟩, ⟨_, g _ _ h4⟩, ⟨_, g _ _ h5⟩, ⟨_, g _ _ h6⟩⟩
theorem OffAt.app {o : Nat} {dl : List Nat} {X : Off} {s : Store} (A : OffAt o dl X s) (t : Store) : OffAt o dl X (s ++ t) where
  off := by
    obtain ⟨v, h⟩ := A.off
    exact ⟨v, by rw [List.getElem?_append_left (List.getElem?_eq_some_iff.mp h).1]; exact h⟩
  len := A.len
  dsk := fun j d k h1 h2 => by
    obtain ⟨v, h⟩ := A.dsk j d k h1 h2
    exact ⟨v, by rw [List.getElem?_append_left (List.getElem?_eq_some_iff.mp h).1]; exact h⟩
  nd := A.nd
  ne := A.ne
theorem ModAt.setLy {b : Nat} {X : Off} {s : Store} (A : ModAt b X s) {j : Nat} {k : Dsk} (hj : X.dsk[j]? = some k) (k' : Dsk) (hg : k'.goes = k.goes) (hl : k'.low = k.low) (v : Nat) : ModAt b (X.setD j k') (s.set (b + 2) ⟨.lst ((X.setD j k').dsk.map fun k => .lst (k.lying.map .int)), v⟩) where
  w := by rw [List.getElem?_set_ne (by omega)]; exact A.w
  se := by rw [List.getElem?_set_ne (by omega)]; exact A.se
  ly := by
    obtain ⟨w, h⟩ := A.ly
    exact ⟨v, List.getElem?_set_self (List.getElem?_eq_some_iff.mp h).1⟩
  di := by rw [List.getElem?_set_ne (by omega)]; exact A.di
  go := by
    rw [List.getElem?_set_ne (by omega)]
    have e : ((X.setD j k').dsk.map fun k => D.bl k.goes) = X.dsk.map fun k => D.bl k.goes := by
      show (X.dsk.set j k').map _ = _
      rw [List.map_set, hg]
      exact set_same (by rw [List.getElem?_map, hj]; rfl)
    rw [e]; exact A.go
  lo := by
    rw [List.getElem?_set_ne (by omega)]
    have e : ((X.setD j k').dsk.map fun k => lowD k.low) = X.dsk.map fun k => lowD k.low := by
      show (X.dsk.set j k').map _ = _
      rw [List.map_set, hl]
      exact set_same (by rw [List.getElem?_map, hj]; rfl)
    rw [e]; exact A.lo
theorem ModAt.setW {b : Nat} {X : Off} {s : Store} (A : ModAt b X s) (ws : List (Int × Str)) (v : Nat) : ModAt b { X with words := ws } (s.set b ⟨.dic false (wD ws), v⟩) where
  w := by
    obtain ⟨w, h⟩ := A.w
    exact ⟨v, List.getElem?_set_self (List.getElem?_eq_some_iff.mp h).1⟩
  se := by rw [List.getElem?_set_ne (by omega)]; exact A.se
  ly := by rw [List.getElem?_set_ne (by omega)]; exact A.ly
  di := by rw [List.getElem?_set_ne (by omega)]; exact A.di
  go := by rw [List.getElem?_set_ne (by omega)]; exact A.go
  lo := by rw [List.getElem?_set_ne (by omega)]; exact A.lo
section
variable {P : Prog} {W n : Nat} {s : Store} {o b : Nat} {dl : List Nat} {X : Off}
theorem due_ok (hl : look P "_law_lent" = some F_law_lent) (hl1 : look P "_law_reported" = some F_law_reported) (hl2 : look P "_law_due" = some F2_law_due) (A : ModAt b X s) (w : Deed) {k : Dsk} (h : X.dsk[w.j]? = some k) (hw : w.ok X k) : ∃ s', run P W (n + 2) "_law_due" [.loc (b + 3), w.d] s = .ok (act X k w).2.m s' ∧ ModAt b (act X k w).1 s' ∧ Fix [b, b + 2] s s' := by
  rw [run_eq hl2 rfl (by decide)]
  have m1 : b ∈ [b, b + 2] := by simp
  have m2 : b + 2 ∈ [b, b + 2] := by simp
  cases w with
  | lend j many =>
    obtain ⟨w1, w2, w3⟩ := hw
    change X.dsk[j]? = some k at h
    obtain ⟨v, hr⟩ := lent_model (W := W) (n := n) hl A h w2 w3 w1 many
    by_cases c1 : many < 1
    · rw [if_pos c1] at hr
      refine ⟨s, ?_, by simpa [act, c1] using A, Fix.refl _ _⟩
      simp [F2_law_due, begun, Deed.d, hr, act, c1, Ans.m, gc_self]
    · rw [if_neg c1] at hr
      cases hb : X.block many with
      | none =>
        rw [hb] at hr
        refine ⟨s, ?_, by simpa [act, c1, hb] using A, Fix.refl _ _⟩
        simp [F2_law_due, begun, Deed.d, hr, act, c1, hb, Ans.m, gc_self]
      | some x =>
        rw [hb] at hr
        refine ⟨_, ?_, by simpa [act, c1, hb] using A.setLy h (k.lent (x - many + 1) x) rfl rfl v, Fix.set m2⟩
        simp [F2_law_due, begun, Deed.d, hr, act, c1, hb, Ans.m, gc_len]
  | report j ws =>
    obtain ⟨w1, w2, w3⟩ := hw
    change X.dsk[j]? = some k at h
    obtain ⟨v1, v2, hr⟩ := reported_model (W := W) (n := n) hl1 A h ws w1 w2 w3
    by_cases c1 : (ws.filter wnew).isEmpty = false
    · rw [if_pos c1] at hr
      refine ⟨s, ?_, by simpa [act, c1] using A, Fix.refl _ _⟩
      simp [F2_law_due, begun, Deed.d, hr, act, c1, Ans.m, gc_self]
    · rw [if_neg c1] at hr
      by_cases c2 : k.lying.length < ws.length
      · rw [if_pos c2] at hr
        refine ⟨s, ?_, by simpa [act, c1, c2] using A, Fix.refl _ _⟩
        simp [F2_law_due, begun, Deed.d, hr, act, c1, c2, Ans.m, gc_self]
      · rw [if_neg c2] at hr
        refine ⟨_, ?_, by simpa [act, c1, c2] using (A.setW (wputs X.words ((k.lying.take ws.length).zip ws)) v1).setLy (k := k) h (k.rep ws.length) rfl rfl v2, (Fix.set m1).trans (Fix.set m2)⟩
        simp [F2_law_due, begun, Deed.d, hr, act, c1, c2, Ans.m, gc_len, Off.setD]
  | back j =>
    change X.dsk[j]? = some k at h
    obtain ⟨vl, hly⟩ := A.ly
    obtain ⟨vd, hdi⟩ := A.di
    have hjl := (List.getElem?_eq_some_iff.mp h).1
    have hat : L2.atI (X.dsk.map fun k => D.lst (k.lying.map .int)) (j : Int) = some (.lst (k.lying.map .int)) := by
      rw [atI_at (k := j) rfl (by rw [List.length_map]; exact hjl), List.getElem?_map, h]
      rfl
    refine ⟨_, ?_, A.setLy h k.cleared rfl rfl (vl + 1), Fix.set m2⟩
    simp [F2_law_due, begun, Deed.d, hly, hdi, hat, act, Ans.m, gc_len, ixN_nat hjl, Off.setD, List.map_set, Dsk.cleared]
theorem plain_ints (ns : List Int) : D.plains (ns.map .int) = true := by
  induction ns with
  | nil => rfl
  | cons a r ih =>
    show (true && D.plains (r.map .int)) = true
    rw [ih]; rfl
theorem talls_ints (ns : List Int) : D.talls (ns.map .int) = 0 := by
  induction ns with
  | nil => rfl
  | cons a r ih =>
    show max 0 (D.talls (r.map .int)) = 0
    rw [ih]; rfl
theorem pair_plain (a b : List Int) (ha : a.length ≤ LIM) (hb : b.length ≤ LIM) : D.plain (D.lst [.lst (a.map .int), .lst (b.map .int)]) = true ∧ D.tall (D.lst [.lst (a.map .int), .lst (b.map .int)]) = 2 := by
  have h2 : 2 ≤ LIM := by decide
  constructor
  · simp [D.plain, D.plains, plain_ints, ha, hb, h2]
  · simp [D.tall, D.talls, talls_ints]
theorem is_ok (p : OfP P) (hl : look P "_law_same" = some fSame) (hl2 : look P "_law_is" = some F_law_is) (A : OffAt o dl X s) (B : ModAt b X s) (hz : ∀ k ∈ X.dsk, k.lying.length ≤ LIM) (hd : X.dsk.length ≤ 1000) : run P W (n + 5) "_law_is" [.loc o, .loc (b + 3)] s = .ok (.val (.bl true)) s := by
  obtain ⟨vo, hv⟩ := A.off
  obtain ⟨vl, hly⟩ := B.ly
  obtain ⟨vd, hdi⟩ := B.di
  obtain ⟨vg, hgo⟩ := B.go
  rw [run_eq hl2 rfl (by decide)]
  obtain ⟨e', s', h1, h2, h3⟩ := forL_inv (src := []) (s0 := s) (tg := .one 2) (body := execs (run P W (n + 4)) W (match F_law_is.body with | .cons (.fors _ _ b) _ => b | _ => .nil)) (Inv := fun e t => t = s ∧ ∃ o2 o3, e = [some (.val (.loc o)), some (.val (.loc (b + 3))), o2, o3]) (fun _ _ _ => still_nil _ _) (l := rng 0 X.dsk.length) (e := [some (.val (.loc o)), some (.val (.loc (b + 3))), none, none]) (s := s) (fun x hx e t he => by
    obtain ⟨rfl, o2, o3, rfl⟩ := he
    obtain ⟨j, rfl, hj⟩ := rng_mem hx
    have hj : j < X.dsk.length := by omega
    have hk := List.getElem?_eq_getElem hj
    obtain ⟨d, v, hdj, hds, _⟩ := A.at_ hk
    have hop := open_ok (W := W) (n := n + 2) p A hk hdj hds
    have hre := rest_ok (W := W) (n := n + 2) p A hk hdj hds
    have hat : L2.atI (X.dsk.map fun k => D.lst (k.lying.map .int)) (j : Int) = some (.lst ((X.dsk[j]).lying.map .int)) := by
      rw [atI_at (k := j) rfl (by rw [List.length_map]; exact hj), List.getElem?_map, hk]
      rfl
    have hatg : L2.atI (X.dsk.map fun k => D.bl k.goes) (j : Int) = some (.bl (X.dsk[j]).goes) := by
      rw [atI_at (k := j) rfl (by rw [List.length_map]; exact hj), List.getElem?_map, hk]
      rfl
    have hL := hz _ (List.mem_of_getElem? hk)
    refine ⟨_, [some (.val (.loc o)), some (.val (.loc (b + 3))), some (.val (.int j)), some (.ol (if (X.dsk[j]).goes then [.lst ((X.dsk[j]).lying.map .int), .lst []] else [.lst [], .lst ((X.dsk[j]).lying.map .int)]))], t, rfl, ?_, rfl, _, _, rfl⟩
    cases hg : (X.dsk[j]).goes with
    | true =>
      have hs := same_refl (W := W) hl (n + 3) (.lst [.lst ((X.dsk[j]).lying.map .int), .lst []]) t (pair_plain (X.dsk[j]).lying [] hL (Nat.zero_le _)).1 (Nat.le_trans (Nat.le_of_eq (pair_plain (X.dsk[j]).lying [] hL (Nat.zero_le _)).2) (by omega))
      simp [F_law_is, hdi, hly, hgo, hat, hatg, hg, hv, offF, hop, hre, hs]
    | false =>
      have hs := same_refl (W := W) hl (n + 3) (.lst [.lst [], .lst ((X.dsk[j]).lying.map .int)]) t (pair_plain [] (X.dsk[j]).lying (Nat.zero_le _) hL).1 (Nat.le_trans (Nat.le_of_eq (pair_plain [] (X.dsk[j]).lying (Nat.zero_le _) hL).2) (by omega))
      simp [F_law_is, hdi, hly, hgo, hat, hatg, hg, hv, offF, hop, hre, hs]) ⟨rfl, none, none, rfl⟩
  subst h2
  simp [F_law_is, begun, hdi, hly, getI_ok' (i := (X.dsk.length : Int)) (by omega) (by omega)]
  simp [F_law_is] at h1
  rw [h1]
  simp [gc_self]
end
end OI.Y

/-! OF7: k02: a deed is drawn. -/
namespace OI.Y
open PySem (Str)
def F2_law_deed : Fn := ⟨2, 11, (.cons (.asg (.one 2) (.call "_law_drawn" (.cons (.var 0) (.cons (.bi1 "len" (.idx (.var 1) (.cst (.str "lying")))) .nil))))
  (.cons (.asg (.one 3) (.idx (.idx (.var 1) (.cst (.str "lying"))) (.var 2)))
  (.cons (.asg (.one 4) (.call "_law_drawn" (.cons (.var 0) (.cons (.cst (.int 12)) .nil))))
  (.cons (.asg (.one 5) (.bin .add (.cst (.int 1)) (.call "_law_drawn" (.cons (.var 0) (.cons (.idx (.lst (.cons (.cst (.int 9)) (.cons (.cst (.int 9)) (.cons (.cst (.int 9)) (.cons (.cst (.int 400)) .nil))))) (.call "_law_drawn" (.cons (.var 0) (.cons (.cst (.int 4)) .nil)))) .nil)))))
  (.cons (.asg (.one 6) (.lc (.idx (.lst (.cons (.cst (.str "paper")) (.cons (.cst (.str "spoilt")) .nil))) (.call "_law_drawn" (.cons (.var 0) (.cons (.cst (.int 2)) .nil)))) (.one 7) (.rng1 (.call "_law_drawn" (.cons (.var 0) (.cons (.bin .add (.bi1 "len" (.var 3)) (.cst (.int 1))) .nil)))) .no [7]))
  (.cons (.ifs (.cmp .eq (.var 4) (.cst (.int 0))) (.cons (.asg (.one 8) (.call "_law_drawn" (.cons (.var 0) (.cons (.bin .pow (.cst (.int 10)) (.cst (.int 59))) .nil))))
  (.cons (.ret (.tup (.cons (.cst (.str "lend")) (.cons (.var 2) (.cons (.idx (.lst (.cons (.cst (.int 0)) (.cons (.bin .sub (.cst (.int 0)) (.var 8)) (.cons (.bin .add (.cst (.int 401)) (.var 8)) .nil)))) (.call "_law_drawn" (.cons (.var 0) (.cons (.cst (.int 3)) .nil)))) .nil)))))
  .nil)) .nil)
  (.cons (.ifs (.cmp .eq (.var 4) (.cst (.int 1))) (.cons (.asg (.one 9) (.call "_law_drawn" (.cons (.var 0) (.cons (.bin .add (.bi1 "len" (.var 6)) (.cst (.int 1))) .nil))))
  (.cons (.asg (.one 10) (.lst (.cons (.idx (.lst (.cons (.cst (.str "")) (.cons (.cst (.str "Paper")) (.cons (.cst (.str "papers")) (.cons (.cst (.str "open")) .nil))))) (.call "_law_drawn" (.cons (.var 0) (.cons (.cst (.int 4)) .nil)))) .nil)))
  (.cons (.ret (.tup (.cons (.cst (.str "report")) (.cons (.var 2) (.cons (.idx (.lst (.cons (.bin .add (.bin .add (.slc (.var 6) .no (.yes (.var 9))) (.var 10)) (.slc (.var 6) (.yes (.var 9)) .no)) (.cons (.bin .mul (.lst (.cons (.cst (.str "paper")) .nil)) (.bin .add (.bi1 "len" (.var 3)) (.cst (.int 1)))) .nil))) (.call "_law_drawn" (.cons (.var 0) (.cons (.cst (.int 2)) .nil)))) .nil)))))
  .nil))) .nil)
  (.cons (.ifs (.cmp .lt (.var 4) (.cst (.int 7))) (.cons (.ret (.tup (.cons (.cst (.str "lend")) (.cons (.var 2) (.cons (.var 5) .nil)))))
  .nil) .nil)
  (.cons (.ret (.idx (.lst (.cons (.tup (.cons (.cst (.str "report")) (.cons (.var 2) (.cons (.var 6) .nil)))) (.cons (.tup (.cons (.cst (.str "back")) (.cons (.var 2) .nil))) .nil))) (.bi1 "int" (.cmp .gt (.var 4) (.cst (.int 9))))))
  .nil)))))))))⟩

theorem St.set {ns : List Int} {s s' : Store} (h : Dr ns s s') : St ns s' := h.1
theorem Dr.trans {ns : List Int} {s s1 s2 : Store} (a : Dr ns s s1) (b : Dr ns s1 s2) : Dr ns s s2 := by
  obtain ⟨_, e1, rfl⟩ := a
  obtain ⟨h, e2, rfl⟩ := b
  exact ⟨h, e2, by rw [List.set_set]⟩
theorem Dr.refl {ns : List Int} {s : Store} (h : St ns s) : Dr ns s s := by
  refine ⟨h, ?_⟩
  obtain ⟨pos, mixed, rest, v, h0, hp⟩ := h
  exact ⟨_, (set_same h0).symm⟩
theorem Dr.fix {ns : List Int} {s s' : Store} (h : Dr ns s s') : Fix [0] s s' := by
  obtain ⟨_, e, rfl⟩ := h
  exact Fix.set (by simp)
theorem Dr.len {ns : List Int} {s s' : Store} (h : Dr ns s s') : s'.length = s.length := h.fix.1
theorem Dr.mod {ns : List Int} {s s' : Store} (h : Dr ns s s') {b : Nat} {X : Off} (hb : 0 < b) (A : ModAt b X s) : ModAt b X s' := A.fix h.fix fun n h1 h2 z => by
  simp at z; omega
theorem Dr.off {ns : List Int} {s s' : Store} (h : Dr ns s s') {o : Nat} {dl : List Nat} {X : Off} (ho : 0 < o) (hd : ∀ d ∈ dl, 0 < d) (A : OffAt o dl X s) : OffAt o dl X s' := A.fix h.fix fun n h1 z => by
  simp at z
  subst z
  cases h1 with
  | head => omega
  | tail _ h1 => have := hd _ h1; omega
theorem atI_mem {α : Type} {xs : List α} {k : Int} (h0 : 0 ≤ k) (h1 : k < xs.length) : ∃ v ∈ xs, L2.atI xs k = some v := by
  refine ⟨xs[k.toNat]'(by omega), List.getElem_mem _, ?_⟩
  rw [atI_at (k := k.toNat) (by omega) (by omega)]
  exact List.getElem?_eq_getElem _
def strL : List Str := ["paper", "spoilt", "", "Paper", "papers", "open"]
theorem strL_lay : ∀ w ∈ strL, (D.str w).lay = true := by decide +kernel
section
variable {P : Prog} {W n : Nat} {ns : List Int}
theorem words_lc (hl : look P "_law_drawn" = some fDrawn) {a1 a2 a3 a4 a5 a6 a8 a9 a10 : Option M} : ∀ (l : List D) (s0 s : Store) (acc : List D), St ns s → ∃ (ws : List Str) (s' : Store), lcL [] s0 [7] (.one 7) (evc (run P W (n + 1)) .no) (valD (ev (run P W (n + 1)) (.idx (.lst (.cons (.cst (.str "paper")) (.cons (.cst (.str "spoilt")) .nil))) (.call "_law_drawn" (.cons (.var 0) (.cons (.cst (.int 2)) .nil)))))) l acc [some (.val (.loc 0)), a1, a2, a3, a4, a5, a6, none, a8, a9, a10] s = .ok (acc ++ ws.map .str) [some (.val (.loc 0)), a1, a2, a3, a4, a5, a6, none, a8, a9, a10] s' ∧ ws.length = l.length ∧ (∀ w ∈ ws, w ∈ strL) ∧ Dr ns s s'
  | [], s0, s, acc, h => ⟨[], s, by
      rw [show ([] : List Str).map D.str = [] from rfl, List.append_nil]
      exact if_pos (still_nil _ _), rfl, (fun w hw => by cases hw), Dr.refl h⟩
  | x :: l, s0, s, acc, h => by
    obtain ⟨k, s1, hr, h0, h1, hD⟩ := drawn_ok (P := P) (W := W) (n := n) hl (many := 2) (by omega) (by omega) h
    obtain ⟨w, hw, hx⟩ : ∃ w ∈ strL, L2.atI [D.str "paper", D.str "spoilt"] k = some (.str w) := by
      obtain ⟨v, hv, e⟩ := atI_mem (xs := [D.str "paper", D.str "spoilt"]) h0 (by simpa using h1)
      simp only [List.mem_cons, List.not_mem_nil, or_false] at hv
      rcases hv with rfl | rfl
      · exact ⟨_, by simp [strL], e⟩
      · exact ⟨_, by simp [strL], e⟩
    obtain ⟨ws, s', h2, h3, h4, h5⟩ := words_lc hl (a1 := a1) (a2 := a2) (a3 := a3) (a4 := a4) (a5 := a5) (a6 := a6) (a8 := a8) (a9 := a9) (a10 := a10) l s0 s1 (acc ++ [.str w]) hD.1
    refine ⟨w :: ws, s', ?_, by rw [List.length_cons, List.length_cons, h3], fun z hz => ?_, hD.trans h5⟩
    · unfold lcL
      rw [if_pos (still_nil _ _)]
      simp [hr, hx, wipe]
      rw [h2, List.append_assoc]
      rfl
    · cases hz with
      | head => exact hw
      | tail _ hz => exact h4 z hz
/-- a deed as it is drawn -/
def Deed.drawn (X : Off) : Deed → Prop
  | .lend j _ => j < X.dsk.length
  | .report j ws => ∃ k, X.dsk[j]? = some k ∧ (∀ w ∈ ws, w ∈ strL) ∧ ws.length ≤ k.lying.length + 2
  | .back j => j < X.dsk.length
theorem mul_olI (xs : List D) (k : Int) : bin .mul (.ol xs) (.val (.int k)) = if 0 ≤ k ∧ k < 2 ^ 62 ∧ xs.length * k.toNat ≤ LIM then some (.ol (List.replicate k.toNat xs).flatten) else none := by rfl
theorem deed_ok (hl : look P "_law_drawn" = some fDrawn) (hl2 : look P "_law_deed" = some F2_law_deed) {s : Store} {b : Nat} {X : Off} (hb : 0 < b) (A : ModAt b X s) (hS : St ns s) (h1 : 0 < X.dsk.length) (h2 : X.dsk.length ≤ 1000) (hz : ∀ k ∈ X.dsk, k.lying.length ≤ 1000000) : ∃ (w : Deed) (s' : Store), run P W (n + 2) "_law_deed" [.loc 0, .loc (b + 3)] s = .ok (.val w.d) s' ∧ Dr ns s s' ∧ w.drawn X := by
  obtain ⟨vl, hly⟩ := A.ly
  obtain ⟨vd, hdi⟩ := A.di
  obtain ⟨d1, s1, r1, p1, q1, D1⟩ := drawn_ok (P := P) (W := W) (n := n) hl (many := X.dsk.length) (by omega) (by omega) hS
  obtain ⟨j, rfl⟩ : ∃ j : Nat, d1 = j := ⟨d1.toNat, by omega⟩
  have hj : j < X.dsk.length := by omega
  have hk := List.getElem?_eq_getElem hj
  have hK := hz _ (List.getElem_mem hj)
  obtain ⟨vl1, hly1⟩ := (D1.mod hb A).ly
  obtain ⟨vd1, hdi1⟩ := (D1.mod hb A).di
  have hat : L2.atI (X.dsk.map fun k => D.lst (k.lying.map .int)) (j : Int) = some (.lst ((X.dsk[j]).lying.map .int)) := by
    rw [atI_at (k := j) rfl (by rw [List.length_map]; exact hj), List.getElem?_map, hk]
    rfl
  obtain ⟨way, s2, r2, p2, q2, D2⟩ := drawn_ok (P := P) (W := W) (n := n) hl (many := 12) (by omega) (by omega) D1.1
  obtain ⟨d3, s3, r3, p3, q3, D3⟩ := drawn_ok (P := P) (W := W) (n := n) hl (many := 4) (by omega) (by omega) D2.1
  obtain ⟨c, hc, hcx⟩ : ∃ c : Int, (1 ≤ c ∧ c ≤ 400) ∧ L2.atI [D.int 9, D.int 9, D.int 9, D.int 400] d3 = some (.int c) := by
    obtain ⟨v, hv, e⟩ := atI_mem (xs := [D.int 9, D.int 9, D.int 9, D.int 400]) p3 (by simpa using q3)
    simp only [List.mem_cons, List.not_mem_nil, or_false] at hv
    rcases hv with rfl | rfl | rfl | rfl
    all_goals exact ⟨_, by omega, e⟩
  obtain ⟨d4, s4, r4, p4, q4, D4⟩ := drawn_ok (P := P) (W := W) (n := n) hl (many := c) (by omega) (by omega) D3.1
  obtain ⟨d5, s5, r5, p5, q5, D5⟩ := drawn_ok (P := P) (W := W) (n := n) hl (many := ((X.dsk[j]).lying.length : Int) + 1) (by omega) (by omega) D4.1
  obtain ⟨ws, s6, r6, l6, m6, D6⟩ := words_lc (P := P) (W := W) (n := n) hl (a1 := some (.val (.loc (b + 3)))) (a2 := some (.val (.int j))) (a3 := some (.val (.lst ((X.dsk[j]).lying.map .int)))) (a4 := some (.val (.int way))) (a5 := some (.val (.int (1 + d4)))) (a6 := none) (a8 := none) (a9 := none) (a10 := none) (rng 0 d5) s5 s5 [] D5.1
  have hDr : Dr ns s s6 := ((((D1.trans D2).trans D3).trans D4).trans D5).trans D6
  have hr5 : (rng 0 d5).length ≤ LIM := by
    rw [rng_len]
    exact Nat.le_trans (show (d5 - 0).toNat ≤ 1000001 by omega) (by decide)
  rw [rng_len] at l6
  have hwl : ws.length ≤ (X.dsk[j]).lying.length := by omega
  rw [List.nil_append] at r6
  rw [run_eq hl2 rfl (by decide)]
  by_cases w0 : way = 0
  · subst w0
    obtain ⟨far, s7, r7, p7, q7, D7⟩ := drawn_ok (P := P) (W := W) (n := n) hl (many := 100000000000000000000000000000000000000000000000000000000000) (by omega) (by omega) D6.1
    obtain ⟨d8, s8, r8, p8, q8, D8⟩ := drawn_ok (P := P) (W := W) (n := n) hl (many := 3) (by omega) (by omega) D7.1
    obtain ⟨mm, hmx⟩ : ∃ c : Int, L2.atI [D.int 0, D.int (-far), D.int (401 + far)] d8 = some (.int c) := by
      obtain ⟨v, hv, e⟩ := atI_mem (xs := [D.int 0, D.int (-far), D.int (401 + far)]) p8 (by simpa using q8)
      simp only [List.mem_cons, List.not_mem_nil, or_false] at hv
      rcases hv with rfl | rfl | rfl
      all_goals exact ⟨_, e⟩
    have hD := (hDr.trans D7).trans D8
    refine ⟨.lend j mm, s8, ?_, hD, hj⟩
    simp [F2_law_deed, begun, hdi, hly, r1, hdi1, hly1, hat, r2, r3, hcx, r4, r5, getI_ok' (i := d5) (by omega) (by omega), lcK, wipeOk, hr5, wipe]
    rw [r6]
    simp [lcEnd, back, bin_powI, r7, r8, hmx, gc_len, hD.len, Deed.d]
  · by_cases w1 : way = 1
    · subst w1
      obtain ⟨d7, s7, r7, p7, q7, D7⟩ := drawn_ok (P := P) (W := W) (n := n) hl (many := (ws.length : Int) + 1) (by omega) (by omega) D6.1
      obtain ⟨a, rfl⟩ : ∃ a : Nat, d7 = a := ⟨d7.toNat, by omega⟩
      obtain ⟨d8, s8, r8, p8, q8, D8⟩ := drawn_ok (P := P) (W := W) (n := n) hl (many := 4) (by omega) (by omega) D7.1
      obtain ⟨od, hod, hox⟩ : ∃ w ∈ strL, L2.atI [D.str "", D.str "Paper", D.str "papers", D.str "open"] d8 = some (.str w) := by
        obtain ⟨v, hv, e⟩ := atI_mem (xs := [D.str "", D.str "Paper", D.str "papers", D.str "open"]) p8 (by simpa using q8)
        simp only [List.mem_cons, List.not_mem_nil, or_false] at hv
        rcases hv with rfl | rfl | rfl | rfl
        all_goals exact ⟨_, by simp [strL], e⟩
      obtain ⟨d9, s9, r9, p9, q9, D9⟩ := drawn_ok (P := P) (W := W) (n := n) hl (many := 2) (by omega) (by omega) D8.1
      have hLIM : 2000002 ≤ LIM := by decide
      have ha1 : bin .add (.ol (List.take a (ws.map D.str))) (.ol [.str od]) = some (.ol (List.take a (ws.map D.str) ++ [.str od])) := by
        rw [add_olol, if_pos (by rw [List.length_take, List.length_map, List.length_singleton]; omega)]
      have ha2 : bin .add (.ol (List.take a (ws.map D.str) ++ [.str od])) (.ol (List.drop a (ws.map D.str))) = some (.ol (List.take a (ws.map D.str) ++ [.str od] ++ List.drop a (ws.map D.str))) := by
        rw [add_olol, if_pos (by rw [List.length_append, List.length_take, List.length_drop, List.length_map, List.length_singleton]; omega)]
      have hm : bin .mul (.ol [.str "paper"]) (.val (.int (((X.dsk[j]).lying.length : Int) + 1))) = some (.ol (List.replicate ((X.dsk[j]).lying.length + 1) (.str "paper"))) := by
        rw [mul_olI, if_pos (by refine ⟨by omega, by omega, ?_⟩; rw [List.length_singleton]; omega)]
        rw [show (((X.dsk[j]).lying.length : Int) + 1).toNat = (X.dsk[j]).lying.length + 1 by omega, List.flatten_replicate_singleton]
      obtain ⟨ws', hx, hm', hl'⟩ : ∃ ws' : List Str, L2.atI [D.lst (List.take a (ws.map D.str) ++ [.str od] ++ List.drop a (ws.map D.str)), D.lst (List.replicate ((X.dsk[j]).lying.length + 1) (.str "paper"))] d9 = some (.lst (ws'.map .str)) ∧ (∀ w ∈ ws', w ∈ strL) ∧ ws'.length ≤ (X.dsk[j]).lying.length + 2 := by
        obtain ⟨v, hv, e⟩ := atI_mem (xs := [D.lst (List.take a (ws.map D.str) ++ [.str od] ++ List.drop a (ws.map D.str)), D.lst (List.replicate ((X.dsk[j]).lying.length + 1) (.str "paper"))]) p9 (by simpa using q9)
        simp only [List.mem_cons, List.not_mem_nil, or_false] at hv
        rcases hv with rfl | rfl
        · refine ⟨ws.take a ++ [od] ++ ws.drop a, by rw [e, List.map_append, List.map_append, List.map_take, List.map_drop]; rfl, fun w hw => ?_, ?_⟩
          · rw [List.mem_append, List.mem_append] at hw
            rcases hw with (hw | hw) | hw
            · exact m6 w (List.mem_of_mem_take hw)
            · rw [List.mem_singleton] at hw
              rw [hw]; exact hod
            · exact m6 w (List.mem_of_mem_drop hw)
          · rw [List.length_append, List.length_append, List.length_take, List.length_drop, List.length_singleton]; omega
        · refine ⟨List.replicate ((X.dsk[j]).lying.length + 1) "paper", by rw [e, List.map_replicate], fun w hw => ?_, ?_⟩
          · rw [List.eq_of_mem_replicate hw]; simp [strL]
          · rw [List.length_replicate]; omega
      have hD := ((hDr.trans D7).trans D8).trans D9
      refine ⟨.report j ws', s9, ?_, hD, _, hk, hm', hl'⟩
      simp [F2_law_deed, begun, hdi, hly, r1, hdi1, hly1, hat, r2, r3, hcx, r4, r5, getI_ok' (i := d5) (by omega) (by omega), lcK, wipeOk, hr5, wipe]
      rw [r6]
      rw [List.append_assoc, List.singleton_append] at ha2 hx
      simp [lcEnd, back, r7, r8, hox, r9, cut_take, cut_drop, ha1, ha2, hm, hx, gc_len, hD.len, Deed.d]
    · by_cases w7 : way < 7
      · refine ⟨.lend j (1 + d4), s6, ?_, hDr, hj⟩
        simp [F2_law_deed, begun, hdi, hly, r1, hdi1, hly1, hat, r2, r3, hcx, r4, r5, getI_ok' (i := d5) (by omega) (by omega), lcK, wipeOk, hr5, wipe]
        rw [r6]
        simp [lcEnd, back, w0, w1, w7, gc_len, hDr.len, Deed.d]
      · by_cases w9 : 9 < way
        · refine ⟨.back j, s6, ?_, hDr, hj⟩
          simp [F2_law_deed, begun, hdi, hly, r1, hdi1, hly1, hat, r2, r3, hcx, r4, r5, getI_ok' (i := d5) (by omega) (by omega), lcK, wipeOk, hr5, wipe]
          rw [r6]
          simp [lcEnd, back, w0, w1, w7, w9, gc_len, hDr.len, Deed.d]
        · refine ⟨.report j ws, s6, ?_, hDr, _, hk, m6, by omega⟩
          simp [F2_law_deed, begun, hdi, hly, r1, hdi1, hly1, hat, r2, r3, hcx, r4, r5, getI_ok' (i := d5) (by omega) (by omega), lcK, wipeOk, hr5, wipe]
          rw [r6]
          simp [lcEnd, back, w0, w1, w7, w9, gc_len, hDr.len, Deed.d]
end
end OI.Y

/-! OF8: k02: the law's loop. -/
namespace OI.Y
open PySem (Str)
def F2_turn : ISs := (.cons (.asg (.one 7) (.call "_law_deed" (.cons (.var 1) (.cons (.var 5) .nil))))
  (.cons (.asg (.one 8) (.call "_law_due" (.cons (.var 5) (.cons (.var 7) .nil))))
  (.cons (.asg (.one 9) (.share (.call "_law_told" (.cons (.var 4) (.cons (.var 7) .nil)))))
  (.cons (.ifs (.either (.nott (.call "_law_same" (.cons (.var 9) (.cons (.var 8) .nil)))) (.nott (.call "_law_is" (.cons (.var 4) (.cons (.var 5) .nil))))) (.cons (.ret (.cst (.bl false)))
  .nil) .nil)
  (.cons (.fors (.one 10) (.of (.lst (.cons (.var 9) (.cons (.share (.meth (.var 4) "Office" "open_numbers" (.cons (.idx (.var 7) (.cst (.int 1))) .nil))) .nil)))) (.cons (.ifs (.isi (.var 10) true [.lst]) (.cons (.mut1 "append" (.var 10) (.cst (.int 0)))
  .nil) .nil)
  .nil))
  (.cons (.ifs (.nott (.call "_law_is" (.cons (.var 4) (.cons (.var 5) .nil)))) (.cons (.ret (.cst (.bl false)))
  .nil) .nil)
  .nil))))))
def F2_law : Fn := ⟨1, 11, (.cons (.asg (.one 1) (.call "_law_start" (.cons (.var 0) .nil)))
  (.cons (.asg (.one 2) (.idx (.lst (.cons (.cst (.int 20)) (.cons (.cst (.int 60)) (.cons (.bin .add (.cst (.int 1)) (.call "_law_drawn" (.cons (.var 1) (.cons (.cst (.int 400)) .nil)))) .nil)))) (.call "_law_drawn" (.cons (.var 1) (.cons (.cst (.int 3)) .nil)))))
  (.cons (.asg (.one 3) (.bin .add (.cst (.int 1)) (.call "_law_drawn" (.cons (.var 1) (.cons (.cst (.int 6)) .nil)))))
  (.cons (.asg (.one 4) (.new "Office" (.cons (.var 2) (.cons (.var 3) .nil))))
  (.cons (.asg (.one 5) (.call "_law_office" (.cons (.var 2) (.cons (.var 3) .nil))))
  (.cons (.fors (.one 6) (.rng1 (.call "_law_drawn" (.cons (.var 1) (.cons (.cst (.int 31)) .nil)))) F2_turn)
  (.cons (.ret (.cst (.bl true)))
  .nil)))))))⟩
structure K2 (P : Prog) : Prop where
  off : OfP P
  drawn : look P "_law_drawn" = some fDrawn
  same : look P "_law_same" = some fSame
  lent : look P "_law_lent" = some F_law_lent
  reported : look P "_law_reported" = some F_law_reported
  due : look P "_law_due" = some F2_law_due
  does : look P "_law_does" = some F_law_does
  told : look P "_law_told" = some F_law_told
  is_ : look P "_law_is" = some F_law_is
  deed : look P "_law_deed" = some F2_law_deed
/-- no more than so many turns make -/
structure Cap (t : Nat) (X : Off) : Prop where
  top : X.top ≤ 400
  n0 : 0 < X.dsk.length
  n6 : X.dsk.length ≤ 6
  goes : ∀ k ∈ X.dsk, k.goes = true
  ly : ∀ k ∈ X.dsk, k.lying.length ≤ 400 * t
  w : X.words.length ≤ 13000 * t
theorem sum_le {c : Nat} : ∀ (l : List Dsk), (∀ k ∈ l, k.lying.length ≤ c) → (l.map fun k => k.lying.length).sum ≤ l.length * c
  | [], _ => by simp
  | k :: l, h => by
    have h1 := h k (List.mem_cons_self ..)
    have h2 := sum_le l fun x hx => h x (List.mem_cons_of_mem _ hx)
    rw [List.map_cons, List.sum_cons, List.length_cons, Nat.succ_mul]
    omega
theorem Cap.sum {t : Nat} {X : Off} (C : Cap t X) : X.sum ≤ 6 * (400 * t) :=
  Nat.le_trans (sum_le X.dsk C.ly) (Nat.mul_le_mul_right _ C.n6)
def Deed.kOk (X : Off) (w : Deed) : Prop := ∃ k, X.dsk[w.j]? = some k ∧ w.ok X k
theorem drawn_deed {t : Nat} {X : Off} (C : Cap t X) (ht : t ≤ 31) {w : Deed} (h : w.drawn X) : ∃ k, X.dsk[w.j]? = some k ∧ k.goes = true ∧ w.ok X k := by
  have hs := C.sum
  have hw := C.w
  have hL : 1000000 ≤ LIM := by decide
  cases w with
  | lend j m =>
    have hj : j < X.dsk.length := h
    have hm := List.getElem_mem hj
    have := C.ly _ hm
    exact ⟨_, List.getElem?_eq_getElem hj, C.goes _ hm, by omega, C.top, by omega⟩
  | report j ws =>
    obtain ⟨k, h1, h2, h3⟩ := h
    have hm := List.mem_of_getElem? h1
    have := C.ly _ hm
    exact ⟨k, h1, C.goes _ hm, fun w hw => strL_lay w (h2 w hw), by omega, by omega⟩
  | back j =>
    have hj : j < X.dsk.length := h
    exact ⟨_, List.getElem?_eq_getElem hj, C.goes _ (List.getElem_mem hj), trivial⟩
theorem Cap.setD {t : Nat} {X : Off} (C : Cap t X) (ht : t ≤ 31) {j : Nat} {k' : Dsk} (hg : k'.goes = true) (hl : k'.lying.length ≤ 400 * (t + 1)) (ws : List (Int × Str)) (hw : ws.length ≤ X.words.length + 12400) : Cap (t + 1) (({ X with words := ws } : Off).setD j k') where
  top := C.top
  n0 := by show 0 < (X.dsk.set j k').length; rw [List.length_set]; exact C.n0
  n6 := by show (X.dsk.set j k').length ≤ 6; rw [List.length_set]; exact C.n6
  goes := fun k hk => by
    rcases List.mem_or_eq_of_mem_set hk with h | rfl
    · exact C.goes k h
    · exact hg
  ly := fun k hk => by
    rcases List.mem_or_eq_of_mem_set hk with h | rfl
    · have := C.ly k h; omega
    · exact hl
  w := by
    show ws.length ≤ _
    have := C.w
    omega
theorem Cap.up {t : Nat} {X : Off} (C : Cap t X) : Cap (t + 1) X where
  top := C.top
  n0 := C.n0
  n6 := C.n6
  goes := C.goes
  ly := fun k hk => by have := C.ly k hk; omega
  w := by have := C.w; omega
theorem insI_len (a : Int) : ∀ l : List Int, (insI a l).length = l.length + 1
  | [] => rfl
  | b :: r => by
    unfold insI
    split
    · rfl
    · rw [List.length_cons, insI_len a r, List.length_cons]
theorem sortI_len : ∀ l : List Int, (sortI l).length = l.length
  | [] => rfl
  | a :: r => by
    show (insI a (sortI r)).length = _
    rw [insI_len, sortI_len r]; rfl
theorem cap_act {t : Nat} {X : Off} (C : Cap t X) (ht : t ≤ 31) {w : Deed} {k : Dsk} (h : X.dsk[w.j]? = some k) : Cap (t + 1) (act X k w).1 ∧ ∀ ns, (act X k w).2 = .lst ns → ns.length ≤ 400 * t := by
  have hm := List.mem_of_getElem? h
  have hg := C.goes k hm
  have hl := C.ly k hm
  cases w with
  | lend j m =>
    unfold act
    dsimp only
    split
    · exact ⟨C.up, fun ns h => by cases h⟩
    · rename_i hm1
      split
      · rename_i x hb
        obtain ⟨h1, h2, _, _⟩ := block_some (by omega) hb
        have htop := C.top
        refine ⟨C.setD (X := X) ht (k' := k.lent (x - m + 1) x) hg ?_ X.words (by omega), fun ns h => by cases h⟩
        · show (k.lying ++ rgI (x - m + 1) (x + 1)).length ≤ _
          rw [List.length_append, rgI_len]
          omega
      · exact ⟨C.up, fun ns h => by cases h⟩
  | report j ws =>
    unfold act
    dsimp only
    split
    · exact ⟨C.up, fun ns h => by cases h⟩
    · split
      · exact ⟨C.up, fun ns h => by cases h⟩
      · refine ⟨C.setD ht (k' := k.rep ws.length) hg ?_ _ ?_, fun ns h => ?_⟩
        · show (k.lying.drop ws.length).length ≤ _
          rw [List.length_drop]; omega
        · have := wputs_len ((k.lying.take ws.length).zip ws) X.words
          rw [List.length_zip, List.length_take] at this
          omega
        · cases h
          rw [List.length_take]; omega
  | back j =>
    refine ⟨C.setD (X := X) ht (k' := k.cleared) hg (Nat.zero_le _) X.words (by omega), fun ns h => ?_⟩
    cases h
    rw [sortI_len]
    exact hl
section
variable {P : Prog} {W n : Nat}
theorem same_loc (hl : look P "_law_same" = some fSame) {s : Store} {L v : Nat} {ns : List Int} (h : s[L]? = some ⟨.lst (ns.map .int), v⟩) (hz : ns.length ≤ LIM) : run P W (n + 2) "_law_same" [.loc L, .lst (ns.map .int)] s = .ok (.val (.bl true)) s := by
  rw [run_eq hl rfl (by decide)]
  have hty : tyIs s (.loc L) .lst = some true := by
    unfold tyIs
    dsimp only
    rw [h]
  have hty2 : tyIs s (.loc L) .tup = some false := by
    unfold tyIs
    dsimp only
    rw [h]
  simp [fSame, begun, hty, hty2, h, getI_len (show ns.length ≤ LIM from hz), lcK, wipeOk, rng_len, hz, wipe]
  rw [lc_none (by simp) [] fun x hx => ?_]
  · simp [lcEnd, back, gc_self]
  · obtain ⟨k, rfl, hk⟩ := rng_mem hx
    have hk' : k < ns.length := by omega
    have hat : L2.atI (ns.map D.int) (k : Int) = some (.int ns[k]) := by
      rw [atI_at (k := k) rfl (by rw [List.length_map]; exact hk'), List.getElem?_map, List.getElem?_eq_getElem hk']; rfl
    have hs := same_refl (W := W) hl n (.int ns[k]) s rfl (Nat.zero_le _)
    refine ⟨_, [some (.val (.loc L)), some (.val (.lst (ns.map .int))), some (.val (.int k))], rfl, ?_, rfl⟩
    simp [h, hat, hs]
/-- what holds between the turns -/
structure Inv2 (ns : List Int) (dl : List Nat) (b t : Nat) (X : Off) (s : Store) : Prop where
  st : St ns s
  off : OffAt 1 dl X s
  mod : ModAt b X s
  cap : Cap t X
  b1 : 1 < b
  d1 : ∀ d ∈ dl, 1 < d ∧ d < b
  len : b + 6 ≤ s.length
theorem Inv2.push {ns : List Int} {dl : List Nat} {b t : Nat} {X : Off} {s : Store} (I : Inv2 ns dl b t X s) (u : Store) : Inv2 ns dl b t X (s ++ u) where
  st := by
    obtain ⟨pos, mixed, rest, v, h0, hp⟩ := I.st
    exact ⟨pos, mixed, rest, v, by rw [List.getElem?_append_left (List.getElem?_eq_some_iff.mp h0).1]; exact h0, hp⟩
  off := I.off.app u
  mod := I.mod.app u
  cap := I.cap
  b1 := I.b1
  d1 := I.d1
  len := by rw [List.length_append]; have := I.len; omega
theorem Inv2.high {ns : List Int} {dl : List Nat} {b t : Nat} {X : Off} {s : Store} (I : Inv2 ns dl b t X s) {L : Nat} (hL : b + 6 ≤ L) (en : Ent) : Inv2 ns dl b t X (s.set L en) where
  st := by
    obtain ⟨pos, mixed, rest, v, h0, hp⟩ := I.st
    exact ⟨pos, mixed, rest, v, by rw [List.getElem?_set_ne (by omega)]; exact h0, hp⟩
  off := I.off.fix (Fix.set (List.mem_singleton.mpr rfl)) fun n h z => by
    rw [List.mem_singleton] at z
    have := I.b1
    cases h with
    | head => omega
    | tail _ h => have := (I.d1 _ h).2; omega
  mod := I.mod.fix (Fix.set (List.mem_singleton.mpr rfl)) fun n h1 h2 z => by
    rw [List.mem_singleton] at z
    omega
  cap := I.cap
  b1 := I.b1
  d1 := I.d1
  len := by rw [List.length_set]; exact I.len
theorem Inv2.is {ns : List Int} {dl : List Nat} {b t : Nat} {X : Off} {s : Store} (K : K2 P) (I : Inv2 ns dl b t X s) (ht : t ≤ 32) : run P W (n + 5) "_law_is" [.loc 1, .loc (b + 3)] s = .ok (.val (.bl true)) s :=
  is_ok K.off K.same K.is_ I.off I.mod (fun k hk => Nat.le_trans (I.cap.ly k hk) (Nat.le_trans (show 400 * t ≤ 12800 by omega) (by decide))) (by have := I.cap.n6; omega)
/-- a deed drawn, due and told -/
theorem deed_told {ns : List Int} {dl : List Nat} {b t : Nat} {X : Off} {s : Store} (K : K2 P) (I : Inv2 ns dl b t X s) (ht : t ≤ 31) : ∃ (w : Deed) (a : Ans) (X' : Off) (s1 s2 s3 : Store), run P W (n + 5) "_law_deed" [.loc 0, .loc (b + 3)] s = .ok (.val w.d) s1 ∧ run P W (n + 5) "_law_due" [.loc (b + 3), w.d] s1 = .ok a.m s2 ∧ run P W (n + 5) "_law_told" [.loc 1, w.d] s2 = .ok a.m s3 ∧ Inv2 ns dl b (t + 1) X' s3 ∧ w.j < X'.dsk.length ∧ ∀ ns, a = .lst ns → ns.length ≤ 400 * t := by
  have hb1 := I.b1
  obtain ⟨w, s1, h1, D1, hw⟩ := deed_ok (W := W) (n := n + 3) K.drawn K.deed (by omega) I.mod I.st I.cap.n0 (by have := I.cap.n6; omega) (fun k hk => by have := I.cap.ly k hk; omega)
  obtain ⟨k, hk, hg, hok⟩ := drawn_deed I.cap ht hw
  have A1 : OffAt 1 dl X s1 := D1.off (by omega) (fun d hd => by have := (I.d1 d hd).1; omega) I.off
  have B1 : ModAt b X s1 := D1.mod (by omega) I.mod
  obtain ⟨s2, h2, B2, F2⟩ := due_ok (W := W) (n := n + 3) K.lent K.reported K.due B1 w hk hok
  have A2 : OffAt 1 dl X s2 := A1.fix F2 fun n h z => by
    simp at z
    cases h with
    | head => omega
    | tail _ h => have := (I.d1 _ h).2; omega
  obtain ⟨s3, h3, A3, F3⟩ := told_ok (W := W) (n := n) K.off.toOfB K.does K.told A2 (Nat.le_trans I.cap.n6 (by decide)) w hk hg hok
  have B3 : ModAt b (act X k w).1 s3 := B2.fix F3 fun n h1 h2 z => by
    cases z with
    | head => omega
    | tail _ z => have := (I.d1 _ z).2; omega
  obtain ⟨c1, c2⟩ := cap_act I.cap ht hk
  refine ⟨w, (act X k w).2, (act X k w).1, s1, s2, s3, h1, h2, h3, ⟨?_, A3, B3, c1, hb1, I.d1, ?_⟩, ?_, c2⟩
  · obtain ⟨pos, mixed, rest, v, h0, hp⟩ := D1.1
    refine ⟨pos, mixed, rest, v, ?_, hp⟩
    rw [F3.2 0 (fun z => by
      cases z with
      | tail _ z => have := (I.d1 _ z).1; omega), F2.2 0 (fun z => by simp at z; omega)]
    exact h0
  · have := I.len
    rw [F3.1, F2.1, D1.len]
    exact this
  · have hj := (List.getElem?_eq_some_iff.mp hk).1
    have e : (act X k w).1.dsk.length = X.dsk.length := by
      rw [← A3.len, A2.len]
    rw [e]; exact hj
def tyL (s : Store) (L : Nat) : Option Bool := tyIs s (.loc L) .lst
theorem tyL_lst {s : Store} {L v : Nat} {xs : List D} (h : s[L]? = some ⟨.lst xs, v⟩) : tyIs s (.loc L) .lst = some true := by
  unfold tyIs
  dsimp only
  rw [h]
theorem turn_ok {ns : List Int} {dl : List Nat} {b t : Nat} {X : Off} {s : Store} (K : K2 P) (I : Inv2 ns dl b t X s) (ht : t ≤ 31) (a0 a2 a3 a6 a7 a8 a9 a10 : Option M) : ∃ (X' : Off) (s' : Store) (c7 c8 c9 c10 : Option M), execs (run P W (n + 5)) W F2_turn [a0, some (.val (.loc 0)), a2, a3, some (.val (.loc 1)), some (.val (.loc (b + 3))), a6, a7, a8, a9, a10] s = .ok .nx [a0, some (.val (.loc 0)), a2, a3, some (.val (.loc 1)), some (.val (.loc (b + 3))), a6, c7, c8, c9, c10] s' ∧ Inv2 ns dl b (t + 1) X' s' := by
  obtain ⟨w, a, X', s1, s2, s3, h1, h2, h3, I3, hj, hns⟩ := deed_told (W := W) (n := n) K I ht
  have hL : 13000 ≤ LIM := by decide
  have hk := List.getElem?_eq_getElem hj
  have hkl := I3.cap.ly _ (List.getElem_mem hj)
  have hkg := I3.cap.goes _ (List.getElem_mem hj)
  obtain ⟨en, hwd, hat⟩ : ∃ en, w.d = .tup en ∧ L2.atI en 1 = some (.int w.j) := by cases w <;> exact ⟨_, rfl, by simp [Deed.j]⟩
  rw [hwd] at h1 h2 h3
  -- the office's open numbers, a new list
  have opn : ∀ s, Inv2 ns dl b (t + 1) X' s → run P W (n + 5) "Office.open_numbers" [.loc 1, .int w.j] s = .ok (.ol ((X'.dsk[w.j]).lying.map .int)) s := fun s I => by
    obtain ⟨d, v, hdj, hds, _⟩ := I.off.at_ hk
    have := open_ok (W := W) (n := n + 3) K.off I.off hk hdj hds
    rw [hkg] at this
    exact this
  have hlb := I3.len
  have flat : ∀ d : D, a.m = .val d → D.plain d = true → D.tall d ≤ 2 → (∀ s, tyIs s d .lst = some false) → (∀ s : Store, bw (.val d) (.slot 9) s = (.val d, none)) → ∃ (X' : Off) (s' : Store) (c7 c8 c9 c10 : Option M), execs (run P W (n + 5)) W F2_turn [a0, some (.val (.loc 0)), a2, a3, some (.val (.loc 1)), some (.val (.loc (b + 3))), a6, a7, a8, a9, a10] s = .ok .nx [a0, some (.val (.loc 0)), a2, a3, some (.val (.loc 1)), some (.val (.loc (b + 3))), a6, c7, c8, c9, c10] s' ∧ Inv2 ns dl b (t + 1) X' s' := fun d ha hp hta hty hbw => by
    rw [ha] at h2 h3
    have I6 := I3.push [⟨.lst ((X'.dsk[w.j]).lying.map .int ++ [.int 0]), 1⟩]
    obtain ⟨vo, hv3⟩ := I3.off.off
    have i3 := I3.is (W := W) (n := n) K (by omega)
    have i6 := I6.is (W := W) (n := n) K (by omega)
    have o3 := opn _ I3
    have hsm := same_refl (W := W) K.same (n + 4) d s3 hp (by omega)
    have t1 := hty (s3 ++ [⟨.lst ((X'.dsk[w.j]).lying.map .int), 0⟩])
    have t2 := tyL_lst (get_mid s3 [] ⟨.lst ((X'.dsk[w.j]).lying.map .int), 0⟩)
    have z2 : (X'.dsk[w.j]).lying.length < LIM := by omega
    have hsh : ∀ e s, shareK (.val d, .tmp) e s = .ok (.val d, .tmp) e s := fun _ _ => rfl
    have hkp : keep (.val d) [a0, some (.val (.loc 0)), a2, a3, some (.val (.loc 1)), some (.val (.loc (b + 3))), a6, some (.val (.tup en)), some (.val d), a9, a10] [a0, some (.val (.loc 0)), a2, a3, some (.val (.loc 1)), some (.val (.loc (b + 3))), a6, some (.val (.tup en)), some (.val d), a9, a10] s2 s3 = [a0, some (.val (.loc 0)), a2, a3, some (.val (.loc 1)), some (.val (.loc (b + 3))), a6, some (.val (.tup en)), some (.val d), a9, a10] := keep_same _ _ _
    refine ⟨X', _, some (.val (.tup en)), some (.val d), some (.val d), some (.val (.loc s3.length)), ?_, I6⟩
    simp [F2_turn, h1, h2, h3, hsm, i3, hat, hv3, offF, o3, forL_cons, t1, t2, z2, i6, hsh]
  cases a with
  | lst ms =>
    have hms := hns ms rfl
    have I4 := I3.push [⟨.lst (ms.map .int), 0⟩]
    have I6 := I3.push [⟨.lst (ms.map .int ++ [.int 0]), 1⟩, ⟨.lst ((X'.dsk[w.j]).lying.map .int ++ [.int 0]), 1⟩]
    obtain ⟨vo, hv4⟩ := I4.off.off
    have i4 := I4.is (W := W) (n := n) K (by omega)
    have i6 := I6.is (W := W) (n := n) K (by omega)
    have o4 := opn _ I4
    have hsm := same_loc (W := W) (n := n + 3) K.same (s := s3 ++ [⟨.lst (ms.map .int), 0⟩]) (L := s3.length) (ns := ms) (get_mid _ _ _) (by omega)
    have t1 := tyL_lst (get_mid s3 [⟨.lst ((X'.dsk[w.j]).lying.map .int), 0⟩] ⟨.lst (ms.map .int), 0⟩)
    have t2 := tyL_lst (s := s3 ++ [⟨.lst (ms.map .int ++ [.int 0]), 1⟩, ⟨.lst ((X'.dsk[w.j]).lying.map .int), 0⟩]) (L := s3.length + 1) (get_off _ _ 1)
    have z1 : ms.length < LIM := by omega
    have z2 : (X'.dsk[w.j]).lying.length < LIM := by omega
    refine ⟨X', _, some (.val (.tup en)), some (.ol (ms.map .int)), some (.val (.loc s3.length)), some (.val (.loc (s3.length + 1))), ?_, I6⟩
    simp [F2_turn, h1, h2, h3, Ans.m, hsm, i4, hat, hv4, offF, o4, forL_cons, t1, t2, z1, z2, i6]
  | tup p q => exact flat _ rfl rfl (show 1 ≤ 2 by decide) (fun _ => rfl) fun _ => rfl
  | non => exact flat _ rfl rfl (Nat.zero_le _) (fun _ => rfl) fun _ => rfl
  | err c => exact flat _ rfl rfl (Nat.zero_le _) (fun _ => rfl) fun _ => rfl
theorem turns_ok {ns : List Int} {dl : List Nat} {b : Nat} (K : K2 P) (a0 a2 a3 : Option M) : ∀ (l : List D) (t : Nat) (X : Off) (s0 s : Store) (a6 a7 a8 a9 a10 : Option M), Inv2 ns dl b t X s → t + l.length ≤ 31 → ∃ e' s', forL [] s0 (.one 6) (execs (run P W (n + 5)) W F2_turn) l [a0, some (.val (.loc 0)), a2, a3, some (.val (.loc 1)), some (.val (.loc (b + 3))), a6, a7, a8, a9, a10] s = .ok .nx e' s'
  | [], t, X, s0, s, a6, a7, a8, a9, a10, I, h => ⟨_, _, if_pos (still_nil _ _)⟩
  | x :: l, t, X, s0, s, a6, a7, a8, a9, a10, I, h => by
    rw [List.length_cons] at h
    obtain ⟨X', s', c7, c8, c9, c10, h1, I'⟩ := turn_ok (W := W) (n := n) K I (by omega) a0 a2 a3 (some (.val x)) a7 a8 a9 a10
    obtain ⟨e'', s'', h2⟩ := turns_ok K a0 a2 a3 l (t + 1) X' s0 s' (some (.val x)) c7 c8 c9 c10 I' (by omega)
    refine ⟨e'', s'', ?_⟩
    rw [forL_cons, if_pos (still_nil _ _)]
    simp [h1]
    exact h2
theorem law2_ok (K : K2 P) (hs : look P "_law_start" = some fStart) (ho : look P "_law_office" = some F_law_office) (hl : look P "law" = some F2_law) (ns : List Int) : ∃ s, run P W (n + 6) "law" [.scr ns] [] = .ok (.val (.bl true)) s := by
  obtain ⟨m, h0⟩ := start_ok (P := P) (W := W) (n := n + 4) (ns := ns) hs
  have S0 : St ns [⟨.lst [.scr ns, .int 0, .int m, .int 0], 0⟩] := ⟨0, m, 0, 0, rfl, by omega⟩
  obtain ⟨d1, s1, r1, p1, q1, D1⟩ := drawn_ok (P := P) (W := W) (n := n + 4) K.drawn (many := 400) (by omega) (by omega) S0
  obtain ⟨d2, s2, r2, p2, q2, D2⟩ := drawn_ok (P := P) (W := W) (n := n + 4) K.drawn (many := 3) (by omega) (by omega) D1.1
  obtain ⟨top, ⟨ht1, ht2⟩, htx⟩ : ∃ c : Int, (1 ≤ c ∧ c ≤ 400) ∧ L2.atI [D.int 20, D.int 60, D.int (1 + d1)] d2 = some (.int c) := by
    obtain ⟨v, hv, e⟩ := atI_mem (xs := [D.int 20, D.int 60, D.int (1 + d1)]) p2 (by simpa using q2)
    simp only [List.mem_cons, List.not_mem_nil, or_false] at hv
    rcases hv with rfl | rfl | rfl
    all_goals exact ⟨_, by omega, e⟩
  obtain ⟨d3, s3, r3, p3, q3, D3⟩ := drawn_ok (P := P) (W := W) (n := n + 4) K.drawn (many := 6) (by omega) (by omega) D2.1
  obtain ⟨k, hk⟩ : ∃ k : Nat, 1 + d3 = k := ⟨(1 + d3).toNat, by omega⟩
  have hk1 : 1 ≤ k := by omega
  have hk6 : k ≤ 6 := by omega
  have hlen : s3.length = 1 := by rw [D3.len, D2.len, D1.len]; rfl
  obtain ⟨v, r4⟩ := office_init (W := W) (n := n + 3) K.off.toOfB s3 ht1 ht2 hk1 hk6
  have O4 := new_off s3 top k v 3
  generalize h4 : s3 ++ ⟨.ins "Office" (offF (fresh top k) (dls (s3.length + 1) k)), v⟩ :: List.replicate k ⟨.ins "Desk" (deskF freshD), 3⟩ = s4 at r4 O4
  have l4 : s4.length = k + 2 := by rw [← h4]; simp [hlen]; omega
  have S4 : St ns s4 := by
    obtain ⟨pos, mixed, rest, v, g0, hp⟩ := D3.1
    exact ⟨pos, mixed, rest, v, by rw [← h4, List.getElem?_append_left (List.getElem?_eq_some_iff.mp g0).1]; exact g0, hp⟩
  obtain ⟨tl, htl, r5, M5⟩ := law_office (W := W) (n := n + 4) ho s4 (top := top) (k := k) hk6
  have I5 : Inv2 ns (dls (s3.length + 1) k) s4.length 0 (fresh top k) (s4 ++ tl) := by
    refine ⟨?_, ?_, M5, ⟨ht2, ?_, ?_, ?_, ?_, ?_⟩, by omega, ?_, ?_⟩
    · obtain ⟨pos, mixed, rest, v, g0, hp⟩ := S4
      exact ⟨pos, mixed, rest, v, by rw [List.getElem?_append_left (List.getElem?_eq_some_iff.mp g0).1]; exact g0, hp⟩
    · have := O4.app tl
      rw [hlen] at this ⊢
      exact this
    · show 0 < (List.replicate k freshD).length
      rw [List.length_replicate]; omega
    · show (List.replicate k freshD).length ≤ 6
      rw [List.length_replicate]; omega
    · intro x hx
      rw [List.eq_of_mem_replicate hx]; rfl
    · intro x hx
      rw [List.eq_of_mem_replicate hx]; exact Nat.zero_le _
    · exact Nat.zero_le _
    · intro d hd
      unfold dls at hd
      obtain ⟨i, hi, rfl⟩ := List.mem_map.mp hd
      rw [List.mem_range] at hi
      omega
    · rw [List.length_append, htl]; omega
  obtain ⟨d6, s6, r6, p6, q6, D6⟩ := drawn_ok (P := P) (W := W) (n := n + 4) K.drawn (many := 31) (by omega) (by omega) I5.st
  have I6 : Inv2 ns (dls (s3.length + 1) k) s4.length 0 (fresh top k) s6 := ⟨D6.1, D6.off (by omega) (fun d hd => by have := (I5.d1 d hd).1; omega) I5.off, D6.mod (by omega) I5.mod, I5.cap, I5.b1, I5.d1, by rw [D6.len]; exact I5.len⟩
  obtain ⟨e', s', r7⟩ := turns_ok (W := W) (n := n) K (some (.val (.scr ns))) (some (.val (.int top))) (some (.val (.int k))) (rng 0 d6) 0 (fresh top k) s6 s6 none none none none none I6 (by rw [rng_len]; omega)
  rw [run_eq hl rfl (by decide)]
  apply Exists.intro
  rw [hlen] at r4
  simp [F2_law, begun, h0, r1, r2, htx, r3, hk, hlen, r4, r5, r6, getI_ok' (i := d6) (by omega) (by omega)]
  rw [r7]
  simp
  rfl
end
end OI.Y

/-! OG1: papers found, rests settled: the office's own. -/
namespace OI.Y
open PySem (Str)
inductive Job where
  | lend (d many : Int)
  | report (d : Int) (ws : List Str)
  | back (d : Int)
  | stop (d : Int)
  | found (n : Int)
  | settle (d many : Int)
def Job.d : Job → D
  | .lend d m => .tup [.str "lend", .int d, .int m]
  | .report d ws => .tup [.str "report", .int d, .lst (ws.map .str)]
  | .back d => .tup [.str "back", .int d]
  | .stop d => .tup [.str "stop", .int d]
  | .found n => .tup [.str "found", .int n]
  | .settle d m => .tup [.str "settle", .int d, .int m]
def Off.get (X : Off) (d : Int) : Option Dsk := if 0 ≤ d then X.dsk[d.toNat]? else none
theorem get_none {X : Off} {d : Int} (h : X.get d = none) : ¬ X.is d := by
  unfold Off.get at h
  unfold Off.is
  intro ⟨h1, h2⟩
  rw [if_pos h1, List.getElem?_eq_none_iff] at h
  omega
theorem get_some {X : Off} {d : Int} {k : Dsk} (h : X.get d = some k) : ∃ j : Nat, d = j ∧ X.dsk[j]? = some k ∧ d.toNat = j := by
  unfold Off.get at h
  split at h
  · exact ⟨d.toNat, by omega, h, rfl⟩
  · cases h
def idxI (n : Int) : List Int → Nat
  | [] => 0
  | a :: r => if a = n then 0 else idxI n r + 1
def Dsk.stopped (k : Dsk) : Dsk := { k with goes := false, low := some 0 }
def Dsk.lowMax (k : Dsk) (n : Int) : Dsk := { k with low := some (max (k.low.getD 0) (idxI n k.lying + 1)) }
def Dsk.settled (k : Dsk) : Dsk := { k with lying := [], low := none }
def usedW (X : Off) (n : Int) : Str := if n ∈ X.seen then "paper" else "used"
def setW (X : Off) (l : List Int) : List (Int × Str) := wputs X.words (l.map fun n => (n, usedW X n))
def jact (X : Off) : Job → Off × Ans
  | .lend d m => match X.get d with
    | none => (X, .err "NoDesk")
    | some k => if k.goes = true then act X k (.lend d.toNat m) else (X, .err "Stopped")
  | .report d ws => match X.get d with
    | none => (X, .err "NoDesk")
    | some k => if k.goes = true then act X k (.report d.toNat ws) else (X, .err "Stopped")
  | .back d => match X.get d with
    | none => (X, .err "NoDesk")
    | some k => if k.goes = true then act X k (.back d.toNat) else (X, .err "Stopped")
  | .stop d => match X.get d with
    | none => (X, .err "NoDesk")
    | some k => if k.goes = true then (X.setD d.toNat k.stopped, .lst k.lying) else (X, .err "Stopped")
  | .found n => if ¬ (1 ≤ n ∧ n ≤ X.top) then (X, .err "NoNumber") else if n ∈ X.seen ∨ (wget X.words n).getD ("" : Str) = ("paper" : Str) then (X, .err "Twice") else (match X.holder n with
    | none => (X, .err "NotThere")
    | some j => match X.dsk[j]? with
      | none => (X, .err "NotThere")
      | some k => if k.goes = true then (X, .err "NotThere") else (({ X with seen := sput X.seen n } : Off).setD j (k.lowMax n), .non))
  | .settle d m => match X.get d with
    | none => (X, .err "NoDesk")
    | some k => match k.low with
      | none => (X, .err "NotThere")
      | some i => if m < i ∨ (k.lying.length : Int) < m then (X, .err "NoCount") else (({ X with words := setW X (k.lying.take m.toNat) } : Off).setD d.toNat k.settled, .lst (sortI (k.lying.drop m.toNat)))
/-- no more than so many deeds make -/
structure Fit (t : Nat) (X : Off) : Prop where
  top : X.top ≤ 400
  n6 : X.dsk.length ≤ 6
  ly : ∀ k ∈ X.dsk, k.lying.length ≤ 400 * t
  w : X.words.length ≤ 52000 * t
  se : X.seen.length ≤ t
  low : ∀ k ∈ X.dsk, ∀ i, k.low = some i → 0 ≤ i
  held : ∀ k ∈ X.dsk, k.goes = false → k.lying ≠ [] → k.low ≠ none
def Job.small : Job → Prop
  | .report _ ws => (∀ w ∈ ws, (D.str w).lay = true) ∧ ws.length ≤ 100000
  | _ => True
theorem find_idx (n : Int) : ∀ (l : List Int) (i : Nat), n ∈ l → findIx (.int n) (l.map .int) i = some (i + idxI n l)
  | a :: r, i, h => by
    show (if eqv (.int a) (.int n) = true then some i else findIx (.int n) (r.map .int) (i + 1)) = _
    have he : eqv (.int a) (.int n) = (a == n) := rfl
    rw [he]
    unfold idxI
    by_cases z : a = n
    · subst z; simp
    · have : (a == n) = false := beq_eq_false_iff_ne.mpr z
      rw [this, if_neg (by simp), if_neg z, find_idx n r (i + 1) (by
        cases h with
        | head => exact absurd rfl z
        | tail _ h => exact h)]
      congr 1
      omega
theorem index_ints {n : Int} {l : List Int} (h : n ∈ l) : bm1 "index" (.ol (l.map .int)) (.val (.int n)) = some (.val (.int (idxI n l))) := by
  rw [bm1_idx, flat_ints, find_idx n l 0 h]
  simp [D.flat]
theorem index_ints' {n : Int} {l : List Int} (h : n ∈ l) : bm1 "index" (.val (.lst (l.map .int))) (.val (.int n)) = some (.val (.int (idxI n l))) := index_ints h
@[scoped simp] theorem max_int (a b : Int) : bi2 "max" (.val (.int a)) (.val (.int b)) = some (.val (.int (max a b))) := Eq.trans rfl rfl
section
variable {P : Prog} {W n : Nat} {s : Store} {o : Nat} {dl : List Nat} {X : Off}
theorem need_ok (hl : look P "Office.need_number" = some F_Office_need_number) (A : OffAt o dl X s) (num : Int) : run P W (n + 1) "Office.need_number" [.loc o, .int num] s = if 1 ≤ num ∧ num ≤ X.top then .ok (.val .non) s else .err "NoNumber" s := by
  obtain ⟨v, hv⟩ := A.off
  rw [run_eq hl rfl (by decide)]
  by_cases h1 : 1 ≤ num
  · by_cases h2 : num ≤ X.top
    · simp [F_Office_need_number, begun, hv, offF, chainK_dec, h1, h2, gc_self]
    · simp [F_Office_need_number, begun, hv, offF, chainK_dec, h1, h2, gc_self]
  · simp [F_Office_need_number, begun, hv, offF, chainK_dec, h1, gc_self]
theorem found_ok (p : OfB P) (hn : look P "Office.need_number" = some F_Office_need_number) (hl : look P "Office.found" = some F_Office_found) (A : OffAt o dl X s) {t : Nat} (F : Fit t X) (ht : t ≤ 130) (num : Int) : ∃ s', run P W (n + 3) "Office.found" [.loc o, .int num] s = (jact X (.found num)).2.rr s' ∧ OffAt o dl (jact X (.found num)).1 s' ∧ Fix (o :: dl) s s' := by
  obtain ⟨v, hv⟩ := A.off
  have h1 := need_ok (W := W) (n := n + 1) hn A num
  have hz : X.dsk.length ≤ LIM := Nat.le_trans F.n6 (by decide)
  have h2 := holder_ok (W := W) (n := n + 1) p.holder A hz num
  rw [run_eq hl rfl (by decide)]
  by_cases c1 : 1 ≤ num ∧ num ≤ X.top
  · rw [if_pos c1] at h1
    by_cases c2 : num ∈ X.seen
    · refine ⟨s, ?_, by simpa [jact, c1, c2] using A, Fix.refl _ _⟩
      simp [F_Office_found, begun, hv, offF, h1, c2, jact, c1, Ans.rr, gc_self]
    · by_cases c3 : (wget X.words num).getD ("" : Str) = ("paper" : Str)
      · refine ⟨s, ?_, by simpa [jact, c1, c2, c3] using A, Fix.refl _ _⟩
        simp [F_Office_found, begun, hv, offF, h1, c2, c3, jact, c1, Ans.rr, gc_self]
      · cases hh : X.holder num with
        | none =>
          rw [hh] at h2
          refine ⟨s, ?_, by simpa [jact, c1, c2, c3, hh] using A, Fix.refl _ _⟩
          simp [F_Office_found, begun, hv, offF, h1, c2, c3, jact, c1, hh, h2, optI, Ans.rr, gc_self]
        | some j =>
          rw [hh] at h2
          obtain ⟨k, _, hk, hm⟩ := holdG_some hh
          rw [Nat.sub_zero] at hk
          obtain ⟨d, w, hj, hd, hx⟩ := A.at_ hk
          cases hg : k.goes with
          | true =>
            refine ⟨s, ?_, by simpa [jact, c1, c2, c3, hh, hk, hg] using A, Fix.refl _ _⟩
            simp [F_Office_found, begun, hv, offF, h1, c2, c3, jact, c1, hh, hk, hg, h2, optI, Ans.rr, gc_self, hx, hd, deskF]
          | false =>
            have hkm := List.mem_of_getElem? hk
            obtain ⟨i, hi⟩ : ∃ i, k.low = some i := by
              cases hlo : k.low with
              | none => exact absurd hlo (F.held k hkm hg (fun z => by rw [z] at hm; cases hm))
              | some i => exact ⟨i, rfl⟩
            have hse : X.seen.length < LIM := Nat.lt_of_le_of_lt F.se (Nat.lt_of_le_of_lt ht (by decide))
            have hdo : d ≠ o := fun z => A.ne (z ▸ List.mem_of_getElem? hj)
            have hv2 : ∀ en : Ent, (s.set d en)[o]? = some ⟨.ins "Office" (offF X dl), v⟩ := fun en => by rw [List.getElem?_set_ne hdo]; exact hv
            refine ⟨_, ?_, by simpa [jact, c1, c2, c3, hh, hk, hg] using (A.setDesk hj (k.lowMax num) (w + 1)).setOff (X' := ({ X with seen := sput X.seen num } : Off).setD j (k.lowMax num)) rfl (v + 1), (Fix.set (List.mem_cons_of_mem _ (List.mem_of_getElem? hj))).trans (Fix.set (List.mem_cons_self ..))⟩
            simp [F_Office_found, begun, hv, offF, h1, c2, c3, jact, c1, hh, hk, hg, h2, optI, Ans.rr, Ans.m, gc_len, hx, hd, deskF, hi, lowD, index_ints hm, hv2, sD_len, hse, Dsk.lowMax, Off.setD]
  · rw [if_neg c1] at h1
    refine ⟨s, ?_, by simpa [jact, c1] using A, Fix.refl _ _⟩
    simp [F_Office_found, begun, hv, offF, h1, jact, c1, Ans.rr, gc_self]
theorem settle_loop {R : Runs} {a1 a2 a3 a5 : Option M} {top : Int} {dM : M} {sn : List Int} : ∀ (l : List Int) (ws : List (Int × Str)) (s s0 : Store) (v : Nat) (o4 : Option M), s[o]? = some ⟨.ins "Office" [("top", .val (.int top)), ("desks", dM), ("words", .od false (wD ws)), ("seen", .od false (sD sn))], v⟩ → ws.length + l.length ≤ LIM → ∃ o4' v',
    forL [] s0 (.one 4) (execs R W (.cons (.setI (.attr (.var 0) "words") (.var 4) (.ife (.cmp .isin (.var 4) (.attr (.var 0) "seen")) (.cst (.str "paper")) (.cst (.str "used")))) .nil)) (l.map .int) [some (.val (.loc o)), a1, a2, a3, o4, a5] s = .ok .nx [some (.val (.loc o)), a1, a2, a3, o4', a5] (s.set o ⟨.ins "Office" [("top", .val (.int top)), ("desks", dM), ("words", .od false (wD (wputs ws (l.map fun n => (n, if n ∈ sn then ("paper" : Str) else ("used" : Str)))))), ("seen", .od false (sD sn))], v'⟩)
  | [], ws, s, s0, v, o4, h, hz => ⟨o4, v, by
      have : s.set o ⟨.ins "Office" [("top", .val (.int top)), ("desks", dM), ("words", .od false (wD ws)), ("seen", .od false (sD sn))], v⟩ = s := set_same h
      show (if still _ _ _ = true then _ else _) = _
      rw [if_pos (still_nil _ _)]
      show Res.ok _ _ _ = Res.ok _ _ (s.set o ⟨.ins "Office" [("top", .val (.int top)), ("desks", dM), ("words", .od false (wD ws)), ("seen", .od false (sD sn))], v⟩)
      rw [this]⟩
  | p :: l, ws, s, s0, v, o4, h, hz => by
    have hlt := (List.getElem?_eq_some_iff.mp h).1
    have hz' : ws.length < LIM := by rw [List.length_cons] at hz; omega
    obtain ⟨q4, v', ih⟩ := settle_loop (R := R) (a1 := a1) (a2 := a2) (a3 := a3) (a5 := a5) (top := top) (dM := dM) (sn := sn) l (wput ws p (if p ∈ sn then ("paper" : Str) else ("used" : Str))) (s.set o ⟨.ins "Office" [("top", .val (.int top)), ("desks", dM), ("words", .od false (wD (wput ws p (if p ∈ sn then ("paper" : Str) else ("used" : Str))))), ("seen", .od false (sD sn))], v + 1⟩) s0 (v + 1) (some (.val (.int p))) (List.getElem?_set_self hlt) (by
      have := wput_len ws p (if p ∈ sn then ("paper" : Str) else ("used" : Str))
      rw [List.length_cons] at hz
      omega)
    refine ⟨q4, v', ?_⟩
    rw [List.map_cons, forL_cons, if_pos (still_nil _ _)]
    by_cases hp : p ∈ sn
    · rw [if_pos hp] at ih
      simp [h, wD_len, hz', hp]
      rw [ih, List.set_set]
      simp [wputs, hp]
    · rw [if_neg hp] at ih
      simp [h, wD_len, hz', hp]
      rw [ih, List.set_set]
      simp [wputs, hp]
theorem settle_ok (p : OfB P) (hl : look P "Office.settle" = some F_Office_settle) (A : OffAt o dl X s) {t : Nat} (F : Fit t X) (ht : t ≤ 130) (desk m : Int) : ∃ s', run P W (n + 3) "Office.settle" [.loc o, .int desk, .int m] s = (jact X (.settle desk m)).2.rr s' ∧ OffAt o dl (jact X (.settle desk m)).1 s' ∧ Fix (o :: dl) s s' := by
  obtain ⟨v, hv⟩ := A.off
  rw [run_eq hl rfl (by decide)]
  cases hg : X.get desk with
  | none =>
    have h1 := desk_of_no (W := W) (n := n + 1) p.desk_of A (get_none hg)
    refine ⟨s, ?_, by simpa [jact, hg] using A, Fix.refl _ _⟩
    simp [F_Office_settle, begun, hv, offF, h1, jact, hg, Ans.rr, gc_self]
  | some k =>
    obtain ⟨j, rfl, hk, hjn⟩ := get_some hg
    obtain ⟨d, w, hj, hd, hx⟩ := A.at_ hk
    have h1 := desk_of_ok (W := W) (n := n + 1) p.desk_of A hj
    have hkm := List.mem_of_getElem? hk
    cases hlo : k.low with
    | none =>
      refine ⟨s, ?_, by simpa [jact, hg, hlo] using A, Fix.refl _ _⟩
      simp [F_Office_settle, begun, hv, offF, h1, jact, hg, hlo, hd, deskF, lowD, Ans.rr, gc_self]
    | some i =>
      by_cases c1 : m < i
      · refine ⟨s, ?_, by simpa [jact, hg, hlo, c1] using A, Fix.refl _ _⟩
        simp [F_Office_settle, begun, hv, offF, h1, jact, hg, hlo, hd, deskF, lowD, c1, Ans.rr, gc_self]
      · by_cases c2 : (k.lying.length : Int) < m
        · refine ⟨s, ?_, by simpa [jact, hg, hlo, c1, c2] using A, Fix.refl _ _⟩
          simp [F_Office_settle, begun, hv, offF, h1, jact, hg, hlo, hd, deskF, lowD, c1, c2, Ans.rr, gc_self]
        · have hi := F.low k hkm i hlo
          obtain ⟨c, rfl⟩ : ∃ c : Nat, m = c := ⟨m.toNat, by omega⟩
          have hL : 10000000 ≤ LIM := by decide
          have hly := F.ly k hkm
          have hw := F.w
          obtain ⟨q4, v', hr⟩ := settle_loop (o := o) (W := W) (R := run P W (n + 2)) (a1 := some (.val (.int j))) (a2 := some (.val (.int c))) (a3 := some (.val (.loc d))) (a5 := none) (top := X.top) (dM := .ol (dl.map .loc)) (sn := X.seen) (k.lying.take c) X.words s s v none hv (by rw [List.length_take]; omega)
          have hdo : o ≠ d := fun z => A.ne (z ▸ List.mem_of_getElem? hj)
          have hd2 : ∀ en : Ent, (s.set o en)[d]? = some ⟨.ins "Desk" (deskF k), w⟩ := fun en => by rw [List.getElem?_set_ne hdo]; exact hd
          have hd3 : ∀ (en en2 : Ent), ((s.set o en).set d en2)[d]? = some en2 := fun en en2 => List.getElem?_set_self (by rw [List.length_set]; exact (List.getElem?_eq_some_iff.mp hd).1)
          have e1 : bi1 "sorted" (.ol (List.drop c (k.lying.map D.int))) = some (.ol ((sortI (k.lying.drop c)).map .int)) := by rw [← List.map_drop, sorted_ol]
          rw [List.map_take] at hr
          refine ⟨_, ?_, by simpa [jact, hg, hlo, c1, c2, hjn] using (A.setOff (X' := ({ X with words := setW X (k.lying.take c) } : Off)) rfl v').setDesk hj k.settled (w + 1 + 1), (Fix.set (List.mem_cons_self ..)).trans (Fix.set (List.mem_cons_of_mem _ (List.mem_of_getElem? hj)))⟩
          simp [F_Office_settle, begun, hv, offF, h1, jact, hg, hlo, hd, deskF, lowD, c1, c2, cut_take]
          rw [hr]
          simp [hd2, hd3, deskF, cut_drop, e1, Ans.rr, Ans.m, gc_len, Dsk.settled, setW, usedW, lowD]
end
end OI.Y

/-! OG2: any deed, as the office does it. -/
namespace OI.Y
open PySem (Str)
section
variable {P : Prog} {W n : Nat} {s : Store} {o : Nat} {dl : List Nat} {X : Off}
theorem lend_no (p : OfB P) (A : OffAt o dl X s) {desk : Int} (h : ¬ X.is desk) (m : Int) : run P W (n + 3) "Office.lend" [.loc o, .int desk, .int m] s = .err "NoDesk" s := by
  obtain ⟨v, hv⟩ := A.off
  have h1 := going_no (W := W) (n := n) p.desk_of p.going A h
  rw [run_eq p.lend rfl (by decide)]
  simp [F_Office_lend, begun, hv, offF, h1, gc_self]
theorem lend_stop (p : OfB P) (A : OffAt o dl X s) {j : Nat} {k : Dsk} (h : X.dsk[j]? = some k) (hk : k.goes = false) (m : Int) : run P W (n + 3) "Office.lend" [.loc o, .int j, .int m] s = .err "Stopped" s := by
  obtain ⟨v, hv⟩ := A.off
  have h1 := going_stop (W := W) (n := n) p.desk_of p.going A h hk
  rw [run_eq p.lend rfl (by decide)]
  simp [F_Office_lend, begun, hv, offF, h1, gc_self]
theorem report_no (p : OfB P) (A : OffAt o dl X s) {desk : Int} (h : ¬ X.is desk) (ws : List D) : run P W (n + 3) "Office.report" [.loc o, .int desk, .lst ws] s = .err "NoDesk" s := by
  obtain ⟨v, hv⟩ := A.off
  have h1 := going_no (W := W) (n := n) p.desk_of p.going A h
  rw [run_eq p.report rfl (by decide)]
  simp [F_Office_report, begun, hv, offF, h1, gc_self]
theorem report_stop (p : OfB P) (A : OffAt o dl X s) {j : Nat} {k : Dsk} (h : X.dsk[j]? = some k) (hk : k.goes = false) (ws : List D) : run P W (n + 3) "Office.report" [.loc o, .int j, .lst ws] s = .err "Stopped" s := by
  obtain ⟨v, hv⟩ := A.off
  have h1 := going_stop (W := W) (n := n) p.desk_of p.going A h hk
  rw [run_eq p.report rfl (by decide)]
  simp [F_Office_report, begun, hv, offF, h1, gc_self]
theorem back_no (p : OfB P) (A : OffAt o dl X s) {desk : Int} (h : ¬ X.is desk) : run P W (n + 3) "Office.back" [.loc o, .int desk] s = .err "NoDesk" s := by
  obtain ⟨v, hv⟩ := A.off
  have h1 := going_no (W := W) (n := n) p.desk_of p.going A h
  rw [run_eq p.back rfl (by decide)]
  simp [F_Office_back, begun, hv, offF, h1, gc_self]
theorem back_stop (p : OfB P) (A : OffAt o dl X s) {j : Nat} {k : Dsk} (h : X.dsk[j]? = some k) (hk : k.goes = false) : run P W (n + 3) "Office.back" [.loc o, .int j] s = .err "Stopped" s := by
  obtain ⟨v, hv⟩ := A.off
  have h1 := going_stop (W := W) (n := n) p.desk_of p.going A h hk
  rw [run_eq p.back rfl (by decide)]
  simp [F_Office_back, begun, hv, offF, h1, gc_self]
theorem stop_no (p : OfB P) (A : OffAt o dl X s) {desk : Int} (h : ¬ X.is desk) : run P W (n + 3) "Office.stop" [.loc o, .int desk] s = .err "NoDesk" s := by
  obtain ⟨v, hv⟩ := A.off
  have h1 := going_no (W := W) (n := n) p.desk_of p.going A h
  rw [run_eq p.stop rfl (by decide)]
  simp [F_Office_stop, begun, hv, offF, h1, gc_self]
theorem stop_stop (p : OfB P) (A : OffAt o dl X s) {j : Nat} {k : Dsk} (h : X.dsk[j]? = some k) (hk : k.goes = false) : run P W (n + 3) "Office.stop" [.loc o, .int j] s = .err "Stopped" s := by
  obtain ⟨v, hv⟩ := A.off
  have h1 := going_stop (W := W) (n := n) p.desk_of p.going A h hk
  rw [run_eq p.stop rfl (by decide)]
  simp [F_Office_stop, begun, hv, offF, h1, gc_self]
theorem fit_ok {t : Nat} (F : Fit t X) (ht : t ≤ 129) {k : Dsk} (hk : k ∈ X.dsk) : k.lying.length + 400 ≤ LIM ∧ X.top ≤ 400 ∧ X.words.length + X.sum ≤ LIM ∧ k.lying.length ≤ 52000 ∧ X.words.length ≤ 6800000 := by
  have hL : 10000000 ≤ LIM := by decide
  have h1 := F.ly k hk
  have h2 := F.w
  have h3 : X.sum ≤ 6 * (400 * t) := Nat.le_trans (sum_le X.dsk F.ly) (Nat.mul_le_mul_right _ F.n6)
  exact ⟨by omega, F.top, by omega, by omega, by omega⟩
theorem gdoes (p : OfB P) (hl : look P "_law_does" = some F_law_does) (hn : look P "Office.need_number" = some F_Office_need_number) (hf : look P "Office.found" = some F_Office_found) (hs : look P "Office.settle" = some F_Office_settle) (A : OffAt o dl X s) {t : Nat} (F : Fit t X) (ht : t ≤ 129) (w : Job) (hw : w.small) : ∃ s', run P W (n + 4) "_law_does" [.loc o, w.d] s = (jact X w).2.rr s' ∧ OffAt o dl (jact X w).1 s' ∧ Fix (o :: dl) s s' := by
  have hz : X.dsk.length ≤ LIM := Nat.le_trans F.n6 (by decide)
  obtain ⟨vo, hv⟩ := A.off
  have hL : 10000000 ≤ LIM := by decide
  cases w with
  | lend d m =>
    cases hg : X.get d with
    | none =>
      have h1 := lend_no (W := W) (n := n) p A (get_none hg) m
      refine ⟨s, ?_, by simpa [jact, hg] using A, Fix.refl _ _⟩
      rw [run_eq hl rfl (by decide)]
      simp [F_law_does, begun, Job.d, hv, offF, h1, jact, hg, Ans.rr, gc_self]
    | some k =>
      obtain ⟨j, rfl, hk, hjn⟩ := get_some hg
      cases hgo : k.goes with
      | false =>
        have h1 := lend_stop (W := W) (n := n) p A hk hgo m
        refine ⟨s, ?_, by simpa [jact, hg, hgo] using A, Fix.refl _ _⟩
        rw [run_eq hl rfl (by decide)]
        simp [F_law_does, begun, Job.d, hv, offF, h1, jact, hg, hgo, Ans.rr, gc_self]
      | true =>
        obtain ⟨f1, f2, f3, f4, f5⟩ := fit_ok F ht (List.mem_of_getElem? hk)
        have e : jact X (.lend j m) = act X k (.lend j m) := by simp [jact, hg, hgo]
        rw [e]
        exact does_ok (W := W) (n := n) p hl A hz (.lend j m) hk hgo ⟨f1, f2, f3⟩
  | report d ws =>
    cases hg : X.get d with
    | none =>
      have h1 := report_no (W := W) (n := n) p A (get_none hg) (ws.map .str)
      refine ⟨s, ?_, by simpa [jact, hg] using A, Fix.refl _ _⟩
      rw [run_eq hl rfl (by decide)]
      simp [F_law_does, begun, Job.d, hv, offF, h1, jact, hg, Ans.rr, gc_self]
    | some k =>
      obtain ⟨j, rfl, hk, hjn⟩ := get_some hg
      cases hgo : k.goes with
      | false =>
        have h1 := report_stop (W := W) (n := n) p A hk hgo (ws.map .str)
        refine ⟨s, ?_, by simpa [jact, hg, hgo] using A, Fix.refl _ _⟩
        rw [run_eq hl rfl (by decide)]
        simp [F_law_does, begun, Job.d, hv, offF, h1, jact, hg, hgo, Ans.rr, gc_self]
      | true =>
        obtain ⟨f1, f2, f3, f4, f5⟩ := fit_ok F ht (List.mem_of_getElem? hk)
        have e : jact X (.report j ws) = act X k (.report j ws) := by simp [jact, hg, hgo]
        rw [e]
        exact does_ok (W := W) (n := n) p hl A hz (.report j ws) hk hgo ⟨hw.1, Nat.le_trans hw.2 (by decide), by have := hw.2; omega⟩
  | back d =>
    cases hg : X.get d with
    | none =>
      have h1 := back_no (W := W) (n := n) p A (get_none hg)
      refine ⟨s, ?_, by simpa [jact, hg] using A, Fix.refl _ _⟩
      rw [run_eq hl rfl (by decide)]
      simp [F_law_does, begun, Job.d, hv, offF, h1, jact, hg, Ans.rr, gc_self]
    | some k =>
      obtain ⟨j, rfl, hk, hjn⟩ := get_some hg
      cases hgo : k.goes with
      | false =>
        have h1 := back_stop (W := W) (n := n) p A hk hgo
        refine ⟨s, ?_, by simpa [jact, hg, hgo] using A, Fix.refl _ _⟩
        rw [run_eq hl rfl (by decide)]
        simp [F_law_does, begun, Job.d, hv, offF, h1, jact, hg, hgo, Ans.rr, gc_self]
      | true =>
        have e : jact X (.back j) = act X k (.back j) := by simp [jact, hg, hgo]
        rw [e]
        exact does_ok (W := W) (n := n) p hl A hz (.back j) hk hgo trivial
  | stop d =>
    cases hg : X.get d with
    | none =>
      have h1 := stop_no (W := W) (n := n) p A (get_none hg)
      refine ⟨s, ?_, by simpa [jact, hg] using A, Fix.refl _ _⟩
      rw [run_eq hl rfl (by decide)]
      simp [F_law_does, begun, Job.d, hv, offF, h1, jact, hg, Ans.rr, gc_self]
    | some k =>
      obtain ⟨j, rfl, hk, hjn⟩ := get_some hg
      cases hgo : k.goes with
      | false =>
        have h1 := stop_stop (W := W) (n := n) p A hk hgo
        refine ⟨s, ?_, by simpa [jact, hg, hgo] using A, Fix.refl _ _⟩
        rw [run_eq hl rfl (by decide)]
        simp [F_law_does, begun, Job.d, hv, offF, h1, jact, hg, hgo, Ans.rr, gc_self]
      | true =>
        obtain ⟨dd, v, hj, hd, _⟩ := A.at_ hk
        have h1 := stop_ok (W := W) (n := n) p A hk hj hd hgo
        refine ⟨_, ?_, by simpa [jact, hg, hgo, hjn] using A.setDesk hj k.stopped (v + 1 + 1), Fix.set (List.mem_cons_of_mem _ (List.mem_of_getElem? hj))⟩
        rw [run_eq hl rfl (by decide)]
        simp [F_law_does, begun, Job.d, hv, offF, h1, jact, hg, hgo, Ans.rr, Ans.m, gc_len, Dsk.stopped]
  | found num =>
    obtain ⟨s', h1, h2, h3⟩ := found_ok (W := W) (n := n) p hn hf A F (by omega) num
    refine ⟨s', ?_, h2, h3⟩
    revert h1
    generalize (jact X (.found num)).2 = a
    intro h1
    rw [run_eq hl rfl (by decide)]
    cases a with
    | err c => simp [F_law_does, begun, Job.d, hv, offF, h1, Ans.rr, gc_len, h3.1]
    | tup a b => simp [F_law_does, begun, Job.d, hv, offF, h1, Ans.rr, gc_len, h3.1]
    | lst a => simp [F_law_does, begun, Job.d, hv, offF, h1, Ans.rr, gc_len, h3.1]
    | non => simp [F_law_does, begun, Job.d, hv, offF, h1, Ans.rr, gc_len, h3.1]
  | settle d m =>
    obtain ⟨s', h1, h2, h3⟩ := settle_ok (W := W) (n := n) p hs A F (by omega) d m
    refine ⟨s', ?_, h2, h3⟩
    revert h1
    generalize (jact X (.settle d m)).2 = a
    intro h1
    rw [run_eq hl rfl (by decide)]
    cases a with
    | err c => simp [F_law_does, begun, Job.d, hv, offF, h1, Ans.rr, gc_len, h3.1]
    | tup a b => simp [F_law_does, begun, Job.d, hv, offF, h1, Ans.rr, gc_len, h3.1]
    | lst a => simp [F_law_does, begun, Job.d, hv, offF, h1, Ans.rr, gc_len, h3.1]
    | non => simp [F_law_does, begun, Job.d, hv, offF, h1, Ans.rr, gc_len, h3.1]
theorem jact_told (X : Off) (w : Job) : (jact X w).2.told := by
  have bad : ∀ c, c ∈ errs → (Ans.err c).told := fun c h => h
  cases w with
  | lend d m =>
    unfold jact; dsimp only
    split
    · exact bad _ (by decide)
    · split
      · exact act_told _ _ _
      · exact bad _ (by decide)
  | report d m =>
    unfold jact; dsimp only
    split
    · exact bad _ (by decide)
    · split
      · exact act_told _ _ _
      · exact bad _ (by decide)
  | back d =>
    unfold jact; dsimp only
    split
    · exact bad _ (by decide)
    · split
      · exact act_told _ _ _
      · exact bad _ (by decide)
  | stop d =>
    unfold jact; dsimp only
    split
    · exact bad _ (by decide)
    · split
      · trivial
      · exact bad _ (by decide)
  | found num =>
    unfold jact; dsimp only
    split
    · exact bad _ (by decide)
    · split
      · exact bad _ (by decide)
      · split
        · exact bad _ (by decide)
        · split
          · exact bad _ (by decide)
          · split
            · exact bad _ (by decide)
            · trivial
  | settle d m =>
    unfold jact; dsimp only
    split
    · exact bad _ (by decide)
    · split
      · exact bad _ (by decide)
      · split
        · exact bad _ (by decide)
        · trivial
theorem gtold (p : OfB P) (hl : look P "_law_does" = some F_law_does) (hl2 : look P "_law_told" = some F_law_told) (hn : look P "Office.need_number" = some F_Office_need_number) (hf : look P "Office.found" = some F_Office_found) (hs : look P "Office.settle" = some F_Office_settle) (A : OffAt o dl X s) {t : Nat} (F : Fit t X) (ht : t ≤ 129) (w : Job) (hw : w.small) : ∃ s', run P W (n + 5) "_law_told" [.loc o, w.d] s = .ok (jact X w).2.m s' ∧ OffAt o dl (jact X w).1 s' ∧ Fix (o :: dl) s s' := by
  obtain ⟨s', h1, h2, h3⟩ := gdoes (W := W) (n := n) p hl hn hf hs A F ht w hw
  have ht := jact_told X w
  revert h1 h2 ht
  generalize jact X w = a
  obtain ⟨X', a⟩ := a
  intro h1 h2 ht
  have hvd : ∃ en, w.d = .tup en := by cases w <;> exact ⟨_, rfl⟩
  obtain ⟨en, hvd⟩ := hvd
  have good : ∀ m, run P W (n + 4) "_law_does" [.loc o, w.d] s = .ok m s' → run P W (n + 5) "_law_told" [.loc o, w.d] s = .ok m s' := fun m hm => by
    rw [hvd] at hm ⊢
    rw [run_eq hl2 rfl (by decide)]
    simp [F_law_told, begun, exec, hm, gc_len, h3.1]
  refine ⟨s', ?_, h2, h3⟩
  cases a with
  | tup a b => exact good _ h1
  | lst ns => exact good _ h1
  | non => exact good _ h1
  | err c =>
    have h1 : run P W (n + 4) "_law_does" [.loc o, w.d] s = .err c s' := h1
    obtain ⟨e', hb⟩ := told_bad (s := s') (run P W (n + 4)) W (some (.val (.loc o))) (some (.val w.d)) c ht
    rw [hvd] at h1 hb ⊢
    have hct : (["GapError", "NoOffice", "NoDesk", "Stopped", "NoRoom", "NoCount", "NoWord", "Short", "NoNumber", "Twice", "NotThere", "NoWorld", "NoBox"] : List String).contains c = true ∧ isSub c "GapError" = true := by
      refine ⟨?_, by unfold isSub; simp⟩
      have : c ∈ errs := ht
      simp only [errs, List.mem_cons, List.not_mem_nil, or_false] at this
      rcases this with rfl | rfl | rfl | rfl | rfl | rfl | rfl | rfl | rfl <;> rfl
    rw [run_eq hl2 rfl (by decide), show begun F_law_told [.loc o, .tup en] = [some (.val (.loc o)), some (.val (.tup en)), none, none, none] from rfl, told_body]
    simp [exec, h1, hct.2]
    rw [if_pos (by simpa using hct.1)]
    rw [hb]
    simp [gc_len, h3.1, Ans.m]
end
end OI.Y

/-! OG3: any deed, as the laws' model has it. -/
namespace OI.Y
open PySem (Str)
def F_law_holder : Fn := ⟨2, 3, (.cons (.fors (.one 2) (.rng1 (.bi1 "len" (.idx (.var 0) (.cst (.str "lying"))))) (.cons (.ifs (.cmp .isin (.var 1) (.idx (.idx (.var 0) (.cst (.str "lying"))) (.var 2))) (.cons (.ret (.var 2))
  .nil) .nil)
  .nil))
  (.cons (.ret (.cst .non))
  .nil))⟩
def F_law_found : Fn := ⟨2, 3, (.cons (.ifs (.nott (.chain .le .le (.cst (.int 1)) (.var 1) (.idx (.var 0) (.cst (.str "top"))))) (.cons (.ret (.cst (.str "NoNumber")))
  .nil) .nil)
  (.cons (.ifs (.either (.cmp .isin (.var 1) (.idx (.var 0) (.cst (.str "seen")))) (.cmp .eq (.bm2 "get" (.idx (.var 0) (.cst (.str "words"))) (.var 1) (.cst (.str ""))) (.cst (.str "paper")))) (.cons (.ret (.cst (.str "Twice")))
  .nil) .nil)
  (.cons (.asg (.one 2) (.call "_law_holder" (.cons (.var 0) (.cons (.var 1) .nil))))
  (.cons (.ifs (.either (.isN false (.var 2)) (.idx (.idx (.var 0) (.cst (.str "goes"))) (.var 2))) (.cons (.ret (.cst (.str "NotThere")))
  .nil) .nil)
  (.cons (.setI (.idx (.var 0) (.cst (.str "seen"))) (.var 1) (.cst (.bl true)))
  (.cons (.setI (.idx (.var 0) (.cst (.str "low"))) (.var 2) (.bi2 "max" (.idx (.idx (.var 0) (.cst (.str "low"))) (.var 2)) (.bin .add (.cst (.int 1)) (.bm1 "index" (.idx (.idx (.var 0) (.cst (.str "lying"))) (.var 2)) (.var 1)))))
  (.cons (.ret (.cst .non))
  .nil)))))))⟩
def F_law_settled : Fn := ⟨3, 5, (.cons (.ifs (.isN false (.idx (.idx (.var 0) (.cst (.str "low"))) (.var 1))) (.cons (.ret (.cst (.str "NotThere")))
  .nil) .nil)
  (.cons (.asg (.one 3) (.idx (.idx (.var 0) (.cst (.str "lying"))) (.var 1)))
  (.cons (.ifs (.nott (.chain .le .le (.idx (.idx (.var 0) (.cst (.str "low"))) (.var 1)) (.var 2) (.bi1 "len" (.var 3)))) (.cons (.ret (.cst (.str "NoCount")))
  .nil) .nil)
  (.cons (.fors (.one 4) (.of (.slc (.var 3) .no (.yes (.var 2)))) (.cons (.setI (.idx (.var 0) (.cst (.str "words"))) (.var 4) (.idx (.lst (.cons (.cst (.str "used")) (.cons (.cst (.str "paper")) .nil))) (.bi1 "int" (.cmp .isin (.var 4) (.idx (.var 0) (.cst (.str "seen")))))))
  .nil))
  (.cons (.setI (.idx (.var 0) (.cst (.str "lying"))) (.var 1) (.lst .nil))
  (.cons (.setI (.idx (.var 0) (.cst (.str "low"))) (.var 1) (.cst .non))
  (.cons (.ret (.bi1 "sorted" (.slc (.var 3) (.yes (.var 2)) .no)))
  .nil)))))))⟩
def F_law_due : Fn := ⟨2, 4, (.cons (.ifs (.cmp .eq (.idx (.var 1) (.cst (.int 0))) (.cst (.str "found"))) (.cons (.ret (.call "_law_found" (.cons (.var 0) (.cons (.idx (.var 1) (.cst (.int 1))) .nil))))
  .nil) .nil)
  (.cons (.asg (.one 2) (.idx (.var 1) (.cst (.int 1))))
  (.cons (.ifs (.nott (.chain .le .lt (.cst (.int 0)) (.var 2) (.bi1 "len" (.idx (.var 0) (.cst (.str "lying")))))) (.cons (.ret (.cst (.str "NoDesk")))
  .nil) .nil)
  (.cons (.ifs (.cmp .eq (.idx (.var 1) (.cst (.int 0))) (.cst (.str "settle"))) (.cons (.ret (.call "_law_settled" (.cons (.var 0) (.cons (.var 2) (.cons (.idx (.var 1) (.cst (.int 2))) .nil)))))
  .nil) .nil)
  (.cons (.ifs (.nott (.idx (.idx (.var 0) (.cst (.str "goes"))) (.var 2))) (.cons (.ret (.cst (.str "Stopped")))
  .nil) .nil)
  (.cons (.ifs (.cmp .eq (.idx (.var 1) (.cst (.int 0))) (.cst (.str "lend"))) (.cons (.ret (.call "_law_lent" (.cons (.var 0) (.cons (.var 2) (.cons (.idx (.var 1) (.cst (.int 2))) .nil)))))
  .nil) .nil)
  (.cons (.ifs (.cmp .eq (.idx (.var 1) (.cst (.int 0))) (.cst (.str "report"))) (.cons (.ret (.call "_law_reported" (.cons (.var 0) (.cons (.var 2) (.cons (.idx (.var 1) (.cst (.int 2))) .nil)))))
  .nil) .nil)
  (.cons (.asg (.one 3) (.idx (.idx (.var 0) (.cst (.str "lying"))) (.var 2)))
  (.cons (.ifs (.cmp .eq (.idx (.var 1) (.cst (.int 0))) (.cst (.str "back"))) (.cons (.setI (.idx (.var 0) (.cst (.str "lying"))) (.var 2) (.lst .nil))
  (.cons (.ret (.bi1 "sorted" (.var 3)))
  .nil)) .nil)
  (.cons (.setI (.idx (.var 0) (.cst (.str "goes"))) (.var 2) (.cst (.bl false)))
  (.cons (.setI (.idx (.var 0) (.cst (.str "low"))) (.var 2) (.cst (.int 0)))
  (.cons (.ret (.bi1 "list" (.var 3)))
  .nil))))))))))))⟩

section
variable {P : Prog} {W n : Nat} {s : Store} {b : Nat} {X : Off}
theorem lowD_some (i : Int) : lowD (some i) = .int i := rfl
theorem lowD_none : lowD none = .non := rfl
theorem ly_at {j : Nat} {k : Dsk} (h : X.dsk[j]? = some k) : L2.atI (X.dsk.map fun k => D.lst (k.lying.map .int)) (j : Int) = some (.lst (k.lying.map .int)) := by
  have hjl := (List.getElem?_eq_some_iff.mp h).1
  rw [atI_at (k := j) rfl (by rw [List.length_map]; exact hjl), List.getElem?_map, h]
  rfl
theorem go_at {j : Nat} {k : Dsk} (h : X.dsk[j]? = some k) : L2.atI (X.dsk.map fun k => D.bl k.goes) (j : Int) = some (.bl k.goes) := by
  have hjl := (List.getElem?_eq_some_iff.mp h).1
  rw [atI_at (k := j) rfl (by rw [List.length_map]; exact hjl), List.getElem?_map, h]
  rfl
theorem lo_at {j : Nat} {k : Dsk} (h : X.dsk[j]? = some k) : L2.atI (X.dsk.map fun k => lowD k.low) (j : Int) = some (lowD k.low) := by
  have hjl := (List.getElem?_eq_some_iff.mp h).1
  rw [atI_at (k := j) rfl (by rw [List.length_map]; exact hjl), List.getElem?_map, h]
  rfl
theorem mholder_loop (A : ModAt b X s) (R : Runs) (num : Int) : ∀ (m i : Nat) (o2 : Option M), i + m = X.dsk.length → ∃ o2', forL [] s (.one 2) (execs R W (.cons (.ifs (.cmp .isin (.var 1) (.idx (.idx (.var 0) (.cst (.str "lying"))) (.var 2))) (.cons (.ret (.var 2))
  .nil) .nil)
  .nil)) (rng i X.dsk.length) [some (.val (.loc (b + 3))), some (.val (.int num)), o2] s = (match holdG (X.dsk.drop i) i num with
    | some j => .ok (.ret (.val (.int j))) [some (.val (.loc (b + 3))), some (.val (.int num)), o2'] s
    | none => .ok .nx [some (.val (.loc (b + 3))), some (.val (.int num)), o2'] s)
  | 0, i, o2, h => by
    refine ⟨o2, ?_⟩
    rw [rng_nil (by omega), List.drop_eq_nil_of_le (by omega)]
    simp [holdG]
  | m + 1, i, o2, h => by
    have hi : i < X.dsk.length := by omega
    obtain ⟨vl, hly⟩ := A.ly
    obtain ⟨vd, hdi⟩ := A.di
    have hx := ly_at (List.getElem?_eq_getElem hi)
    rw [rng_cons (by omega), forL_cons, if_pos (still_nil _ _), List.drop_eq_getElem_cons hi]
    by_cases hm : num ∈ (X.dsk[i]).lying
    · refine ⟨some (.val (.int i)), ?_⟩
      simp [holdG, hm, hdi, hly, hx]
    · obtain ⟨o2', ih⟩ := mholder_loop A R num m (i + 1) (some (.val (.int i))) (by omega)
      refine ⟨o2', ?_⟩
      push_cast at ih
      simp [holdG, hm, hdi, hly, hx]
      exact ih
theorem mholder_ok (hl : look P "_law_holder" = some F_law_holder) (A : ModAt b X s) (hz : X.dsk.length ≤ LIM) (num : Int) : run P W (n + 1) "_law_holder" [.loc (b + 3), .int num] s = .ok (.val (optI (X.holder num))) s := by
  obtain ⟨vl, hly⟩ := A.ly
  obtain ⟨vd, hdi⟩ := A.di
  obtain ⟨o2', h⟩ := mholder_loop (W := W) A (run P W n) num X.dsk.length 0 none (by omega)
  rw [run_eq hl rfl (by decide)]
  rw [List.drop_zero] at h
  push_cast at h
  simp [F_law_holder, begun, hdi, hly, getI_len hz, h]
  show fin s (Res.bind (match X.holder num with | some j => _ | none => _) _) = _
  cases X.holder num with
  | none => simp [optI, gc_self]
  | some j => simp [optI, gc_self]
theorem ModAt.setSe {b : Nat} {X : Off} {s : Store} (A : ModAt b X s) (se : List Int) (v : Nat) : ModAt b { X with seen := se } (s.set (b + 1) ⟨.dic false (sD se), v⟩) where
  w := by rw [List.getElem?_set_ne (by omega)]; exact A.w
  se := by
    obtain ⟨w, h⟩ := A.se
    exact ⟨v, List.getElem?_set_self (List.getElem?_eq_some_iff.mp h).1⟩
  ly := by rw [List.getElem?_set_ne (by omega)]; exact A.ly
  di := by rw [List.getElem?_set_ne (by omega)]; exact A.di
  go := by rw [List.getElem?_set_ne (by omega)]; exact A.go
  lo := by rw [List.getElem?_set_ne (by omega)]; exact A.lo
/-- a desk's row, its state and its least are changed, one behind the other -/
theorem ModAt.setAll {b : Nat} {X : Off} {s s' : Store} (A : ModAt b X s) (j : Nat) (k' : Dsk) (L : List Nat) (f : Fix L s s') (hL : ∀ n ∈ L, n = b + 2 ∨ n = b + 4 ∨ n = b + 5)
    (h1 : ∃ v, s'[b + 2]? = some ⟨.lst ((X.dsk.set j k').map fun k => .lst (k.lying.map .int)), v⟩) (h2 : ∃ v, s'[b + 4]? = some ⟨.lst ((X.dsk.set j k').map fun k => .bl k.goes), v⟩) (h3 : ∃ v, s'[b + 5]? = some ⟨.lst ((X.dsk.set j k').map fun k => lowD k.low), v⟩) : ModAt b (X.setD j k') s' where
  w := by rw [f.2 _ (fun z => by have := hL _ z; omega)]; exact A.w
  se := by rw [f.2 _ (fun z => by have := hL _ z; omega)]; exact A.se
  ly := h1
  di := by rw [f.2 _ (fun z => by have := hL _ z; omega)]; exact A.di
  go := h2
  lo := h3
theorem map_set_same {α : Type} {g : Dsk → α} {l : List Dsk} {j : Nat} {k k' : Dsk} (h : l[j]? = some k) (e : g k' = g k) : (l.set j k').map g = l.map g := by
  rw [List.map_set, e]
  exact set_same (by rw [List.getElem?_map, h]; rfl)
theorem mfound_ok (hh : look P "_law_holder" = some F_law_holder) (hl : look P "_law_found" = some F_law_found) (A : ModAt b X s) {t : Nat} (F : Fit t X) (ht : t ≤ 129) (num : Int) : ∃ s', run P W (n + 2) "_law_found" [.loc (b + 3), .int num] s = .ok (jact X (.found num)).2.m s' ∧ ModAt b (jact X (.found num)).1 s' ∧ Fix [b, b + 1, b + 2, b + 4, b + 5] s s' := by
  obtain ⟨vs, hse⟩ := A.se
  obtain ⟨vw, hwd⟩ := A.w
  obtain ⟨vl, hly⟩ := A.ly
  obtain ⟨vd, hdi⟩ := A.di
  obtain ⟨vg, hgo⟩ := A.go
  obtain ⟨vo, hlo⟩ := A.lo
  have hz : X.dsk.length ≤ LIM := Nat.le_trans F.n6 (by decide)
  have h2 := mholder_ok (W := W) (n := n) hh A hz num
  rw [run_eq hl rfl (by decide)]
  by_cases c0 : 1 ≤ num
  · by_cases c1 : num ≤ X.top
    · by_cases c2 : num ∈ X.seen
      · refine ⟨s, ?_, by simpa [jact, c0, c1, c2] using A, Fix.refl _ _⟩
        simp [F_law_found, begun, hdi, hse, hwd, chainK_dec, c0, c1, c2, jact, Ans.m, gc_self]
      · by_cases c3 : (wget X.words num).getD ("" : Str) = ("paper" : Str)
        · refine ⟨s, ?_, by simpa [jact, c0, c1, c2, c3] using A, Fix.refl _ _⟩
          simp [F_law_found, begun, hdi, hse, hwd, chainK_dec, c0, c1, c2, c3, jact, Ans.m, gc_self]
        · cases hh : X.holder num with
          | none =>
            rw [hh] at h2
            refine ⟨s, ?_, by simpa [jact, c0, c1, c2, c3, hh] using A, Fix.refl _ _⟩
            simp [F_law_found, begun, hdi, hse, hwd, chainK_dec, c0, c1, c2, c3, jact, hh, h2, optI, Ans.m, gc_self]
          | some j =>
            rw [hh] at h2
            obtain ⟨k, _, hk, hm⟩ := holdG_some hh
            rw [Nat.sub_zero] at hk
            have hjl := (List.getElem?_eq_some_iff.mp hk).1
            cases hg : k.goes with
            | true =>
              refine ⟨s, ?_, by simpa [jact, c0, c1, c2, c3, hh, hk, hg] using A, Fix.refl _ _⟩
              simp [F_law_found, begun, hdi, hse, hwd, hgo, go_at hk, chainK_dec, c0, c1, c2, c3, jact, hh, hk, hg, h2, optI, Ans.m, gc_self]
            | false =>
              have hkm := List.mem_of_getElem? hk
              obtain ⟨i, hi⟩ : ∃ i, k.low = some i := by
                cases hlo : k.low with
                | none => exact absurd hlo (F.held k hkm hg (fun z => by rw [z] at hm; cases hm))
                | some i => exact ⟨i, rfl⟩
              have hsz : X.seen.length < LIM := Nat.lt_of_le_of_lt F.se (Nat.lt_of_le_of_lt ht (by decide))
              have g2 : ∀ en : Ent, (s.set (b + 1) en)[b + 2]? = s[b + 2]? := fun en => List.getElem?_set_ne (by omega)
              have g3 : ∀ en : Ent, (s.set (b + 1) en)[b + 3]? = s[b + 3]? := fun en => List.getElem?_set_ne (by omega)
              have g5 : ∀ en : Ent, (s.set (b + 1) en)[b + 5]? = s[b + 5]? := fun en => List.getElem?_set_ne (by omega)
              have hlo1 := lo_at hk
              rw [hi, lowD_some] at hlo1
              have A1 := A.setSe (sput X.seen num) (vs + 1)
              have A2 : ModAt b (({ X with seen := sput X.seen num } : Off).setD j (k.lowMax num)) ((s.set (b + 1) ⟨.dic false (sD (sput X.seen num)), vs + 1⟩).set (b + 5) ⟨.lst ((X.dsk.set j (k.lowMax num)).map fun k => lowD k.low), vo + 1⟩) := A1.setAll j (k.lowMax num) [b + 5] (Fix.set (List.mem_singleton.mpr rfl)) (fun n hn => by rw [List.mem_singleton] at hn; omega) ⟨vl, by
                  rw [List.getElem?_set_ne (by omega), g2]
                  show _ = some (⟨.lst ((X.dsk.set j (k.lowMax num)).map fun k => .lst (k.lying.map .int)), vl⟩ : Ent)
                  rw [map_set_same (g := fun k => D.lst (k.lying.map .int)) (k' := k.lowMax num) hk rfl]
                  exact hly⟩ ⟨vg, by
                  rw [List.getElem?_set_ne (by omega), List.getElem?_set_ne (by omega)]
                  show _ = some (⟨.lst ((X.dsk.set j (k.lowMax num)).map fun k => .bl k.goes), vg⟩ : Ent)
                  rw [map_set_same (g := fun k => D.bl k.goes) (k' := k.lowMax num) hk rfl]
                  exact hgo⟩ ⟨vo + 1, List.getElem?_set_self (by rw [List.length_set]; exact (List.getElem?_eq_some_iff.mp hlo).1)⟩
              refine ⟨_, ?_, by simpa [jact, c0, c1, c2, c3, hh, hk, hg] using A2, (Fix.set (by simp)).trans (Fix.set (by simp))⟩
              simp [F_law_found, begun, hdi, hse, hwd, hgo, hly, hlo, go_at hk, ly_at hk, hlo1, chainK_dec, c0, c1, c2, c3, jact, hh, hk, hg, h2, optI, Ans.m, gc_len, g2, g3, g5, sD_len, hsz, index_ints' hm, ixN_nat hjl, lowD_some, Dsk.lowMax, hi, List.map_set, Int.add_comm 1]
    · refine ⟨s, ?_, by simpa [jact, c0, c1] using A, Fix.refl _ _⟩
      simp [F_law_found, begun, hdi, chainK_dec, c0, c1, jact, Ans.m, gc_self]
  · refine ⟨s, ?_, by simpa [jact, c0] using A, Fix.refl _ _⟩
    simp [F_law_found, begun, hdi, chainK_dec, c0, jact, Ans.m, gc_self]
theorem mset_loop {R : Runs} {a1 a2 a3 : Option M} {md : List (D × D)} {vm vs : Nat} {sn : List Int} (hd : dget md (.str "words") = some (.loc b)) (hd2 : dget md (.str "seen") = some (.loc (b + 1))) : ∀ (l : List Int) (ws : List (Int × Str)) (s s0 : Store) (v : Nat) (o4 : Option M), s[b]? = some ⟨.dic false (wD ws), v⟩ → s[b + 1]? = some ⟨.dic false (sD sn), vs⟩ → s[b + 3]? = some ⟨.dic false md, vm⟩ → ws.length + l.length ≤ LIM → ∃ o4' v',
    forL [] s0 (.one 4) (execs R W (.cons (.setI (.idx (.var 0) (.cst (.str "words"))) (.var 4) (.idx (.lst (.cons (.cst (.str "used")) (.cons (.cst (.str "paper")) .nil))) (.bi1 "int" (.cmp .isin (.var 4) (.idx (.var 0) (.cst (.str "seen"))))))) .nil)) (l.map .int) [some (.val (.loc (b + 3))), a1, a2, a3, o4] s = .ok .nx [some (.val (.loc (b + 3))), a1, a2, a3, o4'] (s.set b ⟨.dic false (wD (wputs ws (l.map fun n => (n, if n ∈ sn then ("paper" : Str) else ("used" : Str))))), v'⟩)
  | [], ws, s, s0, v, o4, h, h1, h3, hz => ⟨o4, v, by
      have : s.set b ⟨.dic false (wD ws), v⟩ = s := set_same h
      show (if still _ _ _ = true then _ else _) = _
      rw [if_pos (still_nil _ _)]
      show Res.ok _ _ _ = Res.ok _ _ (s.set b ⟨.dic false (wD ws), v⟩)
      rw [this]⟩
  | p :: l, ws, s, s0, v, o4, h, h1, h3, hz => by
    have hlt := (List.getElem?_eq_some_iff.mp h).1
    have hz' : ws.length < LIM := by rw [List.length_cons] at hz; omega
    obtain ⟨q4, v', ih⟩ := mset_loop (R := R) (a1 := a1) (a2 := a2) (a3 := a3) (sn := sn) (md := md) hd hd2 l (wput ws p (if p ∈ sn then ("paper" : Str) else ("used" : Str))) (s.set b ⟨.dic false (wD (wput ws p (if p ∈ sn then ("paper" : Str) else ("used" : Str)))), v + 1⟩) s0 (v + 1) (some (.val (.int p))) (List.getElem?_set_self hlt) (by rw [List.getElem?_set_ne (by omega)]; exact h1) (by rw [List.getElem?_set_ne (by omega)]; exact h3) (by
      have := wput_len ws p (if p ∈ sn then ("paper" : Str) else ("used" : Str))
      rw [List.length_cons] at hz
      omega)
    refine ⟨q4, v', ?_⟩
    rw [List.map_cons, forL_cons, if_pos (still_nil _ _)]
    by_cases hp : p ∈ sn
    · rw [if_pos hp] at ih
      simp [h, h1, h3, hd, hd2, wD_len, hz', hp]
      rw [ih, List.set_set]
      simp [wputs, hp]
    · rw [if_neg hp] at ih
      simp [h, h1, h3, hd, hd2, wD_len, hz', hp]
      rw [ih, List.set_set]
      simp [wputs, hp]
theorem msettled_ok (hl : look P "_law_settled" = some F_law_settled) (A : ModAt b X s) {t : Nat} (F : Fit t X) (ht : t ≤ 129) {j : Nat} {k : Dsk} (hk : X.dsk[j]? = some k) (m : Int) : ∃ s', run P W (n + 1) "_law_settled" [.loc (b + 3), .int j, .int m] s = .ok (jact X (.settle j m)).2.m s' ∧ ModAt b (jact X (.settle j m)).1 s' ∧ Fix [b, b + 1, b + 2, b + 4, b + 5] s s' := by
  obtain ⟨vs, hse⟩ := A.se
  obtain ⟨vw, hwd⟩ := A.w
  obtain ⟨vl, hly⟩ := A.ly
  obtain ⟨vd, hdi⟩ := A.di
  obtain ⟨vg, hgo⟩ := A.go
  obtain ⟨vo, hlo⟩ := A.lo
  have hg : X.get j = some k := by unfold Off.get; rw [if_pos (by omega)]; exact hk
  have hjl := (List.getElem?_eq_some_iff.mp hk).1
  have hkm := List.mem_of_getElem? hk
  rw [run_eq hl rfl (by decide)]
  have hlo1 := lo_at hk
  cases hlow : k.low with
  | none =>
    rw [hlow, lowD_none] at hlo1
    refine ⟨s, ?_, by simpa [jact, hg, hlow] using A, Fix.refl _ _⟩
    simp [F_law_settled, begun, hdi, hlo, hlo1, jact, hg, hlow, Ans.m, gc_self]
  | some i =>
    rw [hlow, lowD_some] at hlo1
    by_cases c1 : m < i
    · refine ⟨s, ?_, by simpa [jact, hg, hlow, c1] using A, Fix.refl _ _⟩
      simp [F_law_settled, begun, hdi, hlo, hlo1, hly, ly_at hk, chainK_dec, jact, hg, hlow, c1, Ans.m, gc_self, show ¬ (i ≤ m) by omega]
    · by_cases c2 : (k.lying.length : Int) < m
      · refine ⟨s, ?_, by simpa [jact, hg, hlow, c1, c2] using A, Fix.refl _ _⟩
        simp [F_law_settled, begun, hdi, hlo, hlo1, hly, ly_at hk, chainK_dec, jact, hg, hlow, c1, c2, Ans.m, gc_self, show i ≤ m by omega]
      · have hi := F.low k hkm i hlow
        obtain ⟨c, rfl⟩ : ∃ c : Nat, m = c := ⟨m.toNat, by omega⟩
        have hL : 10000000 ≤ LIM := by decide
        have hkl := F.ly k hkm
        have hw := F.w
        obtain ⟨q4, v', hr⟩ := mset_loop (b := b) (W := W) (R := run P W n) (a1 := some (.val (.int j))) (a2 := some (.val (.int c))) (a3 := some (.val (.lst (k.lying.map .int)))) (md := [(.str "top", .int X.top), (.str "words", .loc b), (.str "seen", .loc (b + 1)), (.str "lying", .loc (b + 2)), (.str "goes", .loc (b + 4)), (.str "low", .loc (b + 5))]) (sn := X.seen) (by simp) (by simp) (k.lying.take c) X.words s s vw none hwd hse hdi (by rw [List.length_take]; omega)
        have g2 : ∀ en : Ent, (s.set b en)[b + 2]? = s[b + 2]? := fun en => List.getElem?_set_ne (by omega)
        have g3 : ∀ en : Ent, (s.set b en)[b + 3]? = s[b + 3]? := fun en => List.getElem?_set_ne (by omega)
        have g33 : ∀ en en2 : Ent, ((s.set b en).set (b + 2) en2)[b + 3]? = s[b + 3]? := fun en en2 => by rw [List.getElem?_set_ne (by omega), List.getElem?_set_ne (by omega)]
        have g5 : ∀ en en2 : Ent, ((s.set b en).set (b + 2) en2)[b + 5]? = s[b + 5]? := fun en en2 => by rw [List.getElem?_set_ne (by omega), List.getElem?_set_ne (by omega)]
        have e1 : bi1 "sorted" (.ol (List.drop c (k.lying.map D.int))) = some (.ol ((sortI (k.lying.drop c)).map .int)) := by rw [← List.map_drop, sorted_ol]
        rw [List.map_take] at hr
        have hb2 := (List.getElem?_eq_some_iff.mp hly).1
        have hb5 := (List.getElem?_eq_some_iff.mp hlo).1
        have A1 := A.setW (setW X (k.lying.take c)) v'
        have A2 : ModAt b (({ X with words := setW X (k.lying.take c) } : Off).setD j k.settled) (((s.set b ⟨.dic false (wD (setW X (k.lying.take c))), v'⟩).set (b + 2) ⟨.lst ((X.dsk.set j k.settled).map fun k => .lst (k.lying.map .int)), vl + 1⟩).set (b + 5) ⟨.lst ((X.dsk.set j k.settled).map fun k => lowD k.low), vo + 1⟩) := A1.setAll j k.settled [b + 2, b + 5] ((Fix.set (by simp)).trans (Fix.set (by simp))) (fun n hn => by simp at hn; omega) ⟨vl + 1, by
            rw [List.getElem?_set_ne (by omega), List.getElem?_set_self (by rw [List.length_set]; exact hb2)]⟩ ⟨vg, by
            rw [List.getElem?_set_ne (by omega), List.getElem?_set_ne (by omega), List.getElem?_set_ne (by omega)]
            show _ = some (⟨.lst ((X.dsk.set j k.settled).map fun k => .bl k.goes), vg⟩ : Ent)
            rw [map_set_same (g := fun k => D.bl k.goes) (k' := k.settled) hk rfl]
            exact hgo⟩ ⟨vo + 1, List.getElem?_set_self (by rw [List.length_set, List.length_set]; exact hb5)⟩
        refine ⟨_, ?_, by simpa [jact, hg, hlow, c1, c2] using A2, ((Fix.set (by simp)).trans (Fix.set (by simp))).trans (Fix.set (by simp))⟩
        simp [F_law_settled, begun, hdi, hlo, hlo1, hly, ly_at hk, chainK_dec, jact, hg, hlow, c1, c2, show i ≤ (c : Int) by omega, show (c : Int) ≤ k.lying.length by omega, cut_take]
        rw [hr]
        simp [g2, g3, g33, g5, hdi, hly, hlo, ixN_nat hjl, cut_drop, e1, Ans.m, gc_len, Dsk.settled, setW, usedW, lowD_none, List.map_set]
theorem gdue (hh : look P "_law_holder" = some F_law_holder) (hl : look P "_law_lent" = some F_law_lent) (hl1 : look P "_law_reported" = some F_law_reported) (hl3 : look P "_law_found" = some F_law_found) (hl4 : look P "_law_settled" = some F_law_settled) (hl2 : look P "_law_due" = some F_law_due) (A : ModAt b X s) {t : Nat} (F : Fit t X) (ht : t ≤ 129) (w : Job) (hw : w.small) : ∃ s', run P W (n + 3) "_law_due" [.loc (b + 3), w.d] s = .ok (jact X w).2.m s' ∧ ModAt b (jact X w).1 s' ∧ Fix [b, b + 1, b + 2, b + 4, b + 5] s s' := by
  obtain ⟨vl, hly⟩ := A.ly
  obtain ⟨vd, hdi⟩ := A.di
  obtain ⟨vg, hgo⟩ := A.go
  obtain ⟨vo, hlo⟩ := A.lo
  have hL : 10000000 ≤ LIM := by decide
  have m1 : b ∈ [b, b + 1, b + 2, b + 4, b + 5] := by simp
  have m2 : b + 2 ∈ [b, b + 1, b + 2, b + 4, b + 5] := by simp
  have m4 : b + 4 ∈ [b, b + 1, b + 2, b + 4, b + 5] := by simp
  have m5 : b + 5 ∈ [b, b + 1, b + 2, b + 4, b + 5] := by simp
  have no : ∀ d : Int, X.get d = none → ¬ 0 ≤ d ∨ (0 ≤ d ∧ ¬ d < (X.dsk.length : Int)) := fun d h => by
    have := get_none h
    unfold Off.is at this
    omega
  rw [run_eq hl2 rfl (by decide)]
  cases w with
  | found num =>
    obtain ⟨s', h1, h2, h3⟩ := mfound_ok (W := W) (n := n) hh hl3 A F ht num
    refine ⟨s', ?_, h2, h3⟩
    simp [F_law_due, begun, Job.d, h1, gc_len, h3.1]
  | settle d m =>
    cases hg : X.get d with
    | none =>
      refine ⟨s, ?_, by simpa [jact, hg] using A, Fix.refl _ _⟩
      rcases no d hg with z | ⟨z, z2⟩
      · simp [F_law_due, begun, Job.d, hdi, hly, chainK_dec, z, jact, hg, Ans.m, gc_self]
      · simp [F_law_due, begun, Job.d, hdi, hly, chainK_dec, z, z2, jact, hg, Ans.m, gc_self]
    | some k =>
      obtain ⟨j, rfl, hk, hjn⟩ := get_some hg
      have hjl := (List.getElem?_eq_some_iff.mp hk).1
      obtain ⟨s', h1, h2, h3⟩ := msettled_ok (W := W) (n := n + 1) hl4 A F ht hk m
      refine ⟨s', ?_, h2, h3⟩
      simp [F_law_due, begun, Job.d, hdi, hly, chainK_dec, hjl, h1, gc_len, h3.1]
  | stop d =>
    cases hg : X.get d with
    | none =>
      refine ⟨s, ?_, by simpa [jact, hg] using A, Fix.refl _ _⟩
      rcases no d hg with z | ⟨z, z2⟩
      · simp [F_law_due, begun, Job.d, hdi, hly, chainK_dec, z, jact, hg, Ans.m, gc_self]
      · simp [F_law_due, begun, Job.d, hdi, hly, chainK_dec, z, z2, jact, hg, Ans.m, gc_self]
    | some k =>
      obtain ⟨j, rfl, hk, hjn⟩ := get_some hg
      have hjl := (List.getElem?_eq_some_iff.mp hk).1
      cases hgoes : k.goes with
      | false =>
        have hga := go_at hk
        rw [hgoes] at hga
        refine ⟨s, ?_, by simpa [jact, hg, hgoes] using A, Fix.refl _ _⟩
        simp [F_law_due, begun, Job.d, hdi, hly, hgo, hga, chainK_dec, hjl, jact, hg, hgoes, Ans.m, gc_self]
      | true =>
        have hga := go_at hk
        rw [hgoes] at hga
        have g3 : ∀ en : Ent, (s.set (b + 4) en)[b + 3]? = s[b + 3]? := fun en => List.getElem?_set_ne (by omega)
        have g5 : ∀ en : Ent, (s.set (b + 4) en)[b + 5]? = s[b + 5]? := fun en => List.getElem?_set_ne (by omega)
        have hb4 := (List.getElem?_eq_some_iff.mp hgo).1
        have hb5 := (List.getElem?_eq_some_iff.mp hlo).1
        have A2 : ModAt b (X.setD j k.stopped) ((s.set (b + 4) ⟨.lst ((X.dsk.set j k.stopped).map fun k => .bl k.goes), vg + 1⟩).set (b + 5) ⟨.lst ((X.dsk.set j k.stopped).map fun k => lowD k.low), vo + 1⟩) := A.setAll j k.stopped [b + 4, b + 5] ((Fix.set (by simp)).trans (Fix.set (by simp))) (fun n hn => by simp at hn; omega) ⟨vl, by
            rw [List.getElem?_set_ne (by omega), List.getElem?_set_ne (by omega)]
            rw [map_set_same (g := fun k => D.lst (k.lying.map .int)) (k' := k.stopped) hk rfl]
            exact hly⟩ ⟨vg + 1, by
            rw [List.getElem?_set_ne (by omega), List.getElem?_set_self hb4]⟩ ⟨vo + 1, List.getElem?_set_self (by rw [List.length_set]; exact hb5)⟩
        refine ⟨_, ?_, by simpa [jact, hg, hgoes] using A2, (Fix.set m4).trans (Fix.set m5)⟩
        simp [F_law_due, begun, Job.d, hdi, hly, hgo, hlo, hga, ly_at hk, chainK_dec, hjl, jact, hg, hgoes, Ans.m, gc_len, g3, g5, ixN_nat hjl, Dsk.stopped, List.map_set, lowD_some]
  | back d =>
    cases hg : X.get d with
    | none =>
      refine ⟨s, ?_, by simpa [jact, hg] using A, Fix.refl _ _⟩
      rcases no d hg with z | ⟨z, z2⟩
      · simp [F_law_due, begun, Job.d, hdi, hly, chainK_dec, z, jact, hg, Ans.m, gc_self]
      · simp [F_law_due, begun, Job.d, hdi, hly, chainK_dec, z, z2, jact, hg, Ans.m, gc_self]
    | some k =>
      obtain ⟨j, rfl, hk, hjn⟩ := get_some hg
      have hjl := (List.getElem?_eq_some_iff.mp hk).1
      have hga := go_at hk
      cases hgoes : k.goes with
      | false =>
        rw [hgoes] at hga
        refine ⟨s, ?_, by simpa [jact, hg, hgoes] using A, Fix.refl _ _⟩
        simp [F_law_due, begun, Job.d, hdi, hly, hgo, hga, chainK_dec, hjl, jact, hg, hgoes, Ans.m, gc_self]
      | true =>
        rw [hgoes] at hga
        refine ⟨_, ?_, by simpa [jact, hg, hgoes, act] using A.setLy hk k.cleared rfl rfl (vl + 1), Fix.set m2⟩
        simp [F_law_due, begun, Job.d, hdi, hly, hgo, hga, ly_at hk, chainK_dec, hjl, jact, hg, hgoes, act, Ans.m, gc_len, ixN_nat hjl, Off.setD, List.map_set, Dsk.cleared]
  | lend d m =>
    cases hg : X.get d with
    | none =>
      refine ⟨s, ?_, by simpa [jact, hg] using A, Fix.refl _ _⟩
      rcases no d hg with z | ⟨z, z2⟩
      · simp [F_law_due, begun, Job.d, hdi, hly, chainK_dec, z, jact, hg, Ans.m, gc_self]
      · simp [F_law_due, begun, Job.d, hdi, hly, chainK_dec, z, z2, jact, hg, Ans.m, gc_self]
    | some k =>
      obtain ⟨j, rfl, hk, hjn⟩ := get_some hg
      have hjl := (List.getElem?_eq_some_iff.mp hk).1
      have hga := go_at hk
      cases hgoes : k.goes with
      | false =>
        rw [hgoes] at hga
        refine ⟨s, ?_, by simpa [jact, hg, hgoes] using A, Fix.refl _ _⟩
        simp [F_law_due, begun, Job.d, hdi, hly, hgo, hga, chainK_dec, hjl, jact, hg, hgoes, Ans.m, gc_self]
      | true =>
        rw [hgoes] at hga
        obtain ⟨f1, f2, f3, f4, f5⟩ := fit_ok F ht (List.mem_of_getElem? hk)
        have e : jact X (.lend j m) = act X k (.lend j m) := by simp [jact, hg, hgoes]
        rw [e]
        obtain ⟨v, hr⟩ := lent_model (W := W) (n := n + 1) hl A hk f2 f3 f1 m
        by_cases c1 : m < 1
        · rw [if_pos c1] at hr
          refine ⟨s, ?_, by simpa [act, c1] using A, Fix.refl _ _⟩
          simp [F_law_due, begun, Job.d, hdi, hly, hgo, hga, chainK_dec, hjl, hr, act, c1, Ans.m, gc_self]
        · rw [if_neg c1] at hr
          cases hb : X.block m with
          | none =>
            rw [hb] at hr
            refine ⟨s, ?_, by simpa [act, c1, hb] using A, Fix.refl _ _⟩
            simp [F_law_due, begun, Job.d, hdi, hly, hgo, hga, chainK_dec, hjl, hr, act, c1, hb, Ans.m, gc_self]
          | some x =>
            rw [hb] at hr
            refine ⟨_, ?_, by simpa [act, c1, hb] using A.setLy hk (k.lent (x - m + 1) x) rfl rfl v, Fix.set m2⟩
            simp [F_law_due, begun, Job.d, hdi, hly, hgo, hga, chainK_dec, hjl, hr, act, c1, hb, Ans.m, gc_len]
  | report d ws =>
    cases hg : X.get d with
    | none =>
      refine ⟨s, ?_, by simpa [jact, hg] using A, Fix.refl _ _⟩
      rcases no d hg with z | ⟨z, z2⟩
      · simp [F_law_due, begun, Job.d, hdi, hly, chainK_dec, z, jact, hg, Ans.m, gc_self]
      · simp [F_law_due, begun, Job.d, hdi, hly, chainK_dec, z, z2, jact, hg, Ans.m, gc_self]
    | some k =>
      obtain ⟨j, rfl, hk, hjn⟩ := get_some hg
      have hjl := (List.getElem?_eq_some_iff.mp hk).1
      have hga := go_at hk
      cases hgoes : k.goes with
      | false =>
        rw [hgoes] at hga
        refine ⟨s, ?_, by simpa [jact, hg, hgoes] using A, Fix.refl _ _⟩
        simp [F_law_due, begun, Job.d, hdi, hly, hgo, hga, chainK_dec, hjl, jact, hg, hgoes, Ans.m, gc_self]
      | true =>
        rw [hgoes] at hga
        obtain ⟨f1, f2, f3, f4, f5⟩ := fit_ok F ht (List.mem_of_getElem? hk)
        have e : jact X (.report j ws) = act X k (.report j ws) := by simp [jact, hg, hgoes]
        rw [e]
        obtain ⟨v1, v2, hr⟩ := reported_model (W := W) (n := n + 1) hl1 A hk ws hw.1 (Nat.le_trans hw.2 (by decide)) (by have := hw.2; omega)
        by_cases c1 : (ws.filter wnew).isEmpty = false
        · rw [if_pos c1] at hr
          refine ⟨s, ?_, by simpa [act, c1] using A, Fix.refl _ _⟩
          simp [F_law_due, begun, Job.d, hdi, hly, hgo, hga, chainK_dec, hjl, hr, act, c1, Ans.m, gc_self]
        · rw [if_neg c1] at hr
          by_cases c2 : k.lying.length < ws.length
          · rw [if_pos c2] at hr
            refine ⟨s, ?_, by simpa [act, c1, c2] using A, Fix.refl _ _⟩
            simp [F_law_due, begun, Job.d, hdi, hly, hgo, hga, chainK_dec, hjl, hr, act, c1, c2, Ans.m, gc_self]
          · rw [if_neg c2] at hr
            refine ⟨_, ?_, by simpa [act, c1, c2] using (A.setW (wputs X.words ((k.lying.take ws.length).zip ws)) v1).setLy (k := k) hk (k.rep ws.length) rfl rfl v2, (Fix.set m1).trans (Fix.set m2)⟩
            simp [F_law_due, begun, Job.d, hdi, hly, hgo, hga, chainK_dec, hjl, hr, act, c1, c2, Ans.m, gc_len, Off.setD]
end
end OI.Y

/-! OG4: any deed is drawn. -/
namespace OI.Y
open PySem (Str)
def F_law_far : Fn := ⟨2, 3, (.cons (.asg (.one 2) (.idx (.lst (.cons (.cst (.int 1)) (.cons (.cst (.int 200)) (.cons (.bin .pow (.cst (.int 10)) (.cst (.int 59))) .nil)))) (.call "_law_drawn" (.cons (.var 0) (.cons (.cst (.int 3)) .nil)))))
  (.cons (.ret (.idx (.lst (.cons (.bin .sub (.bin .sub (.cst (.int 0)) (.cst (.int 1))) (.call "_law_drawn" (.cons (.var 0) (.cons (.var 2) .nil)))) (.cons (.bin .add (.bin .add (.var 1) (.cst (.int 1))) (.call "_law_drawn" (.cons (.var 0) (.cons (.var 2) .nil)))) .nil))) (.call "_law_drawn" (.cons (.var 0) (.cons (.cst (.int 2)) .nil)))))
  .nil))⟩
def F_law_words : Fn := ⟨2, 3, (.cons (.ret (.lc (.idx (.lst (.cons (.cst (.str "paper")) (.cons (.cst (.str "spoilt")) (.cons (.cst (.str "paper")) .nil)))) (.call "_law_drawn" (.cons (.var 0) (.cons (.cst (.int 3)) .nil)))) (.one 2) (.rng1 (.var 1)) .no [2]))
  .nil)⟩
def F_law_deed : Fn := ⟨3, 6, (.cons (.asg (.one 3) (.call "_law_drawn" (.cons (.var 0) (.cons (.bi1 "len" (.idx (.var 1) (.cst (.str "lying")))) .nil))))
  (.cons (.asg (.one 4) (.idx (.idx (.var 1) (.cst (.str "lying"))) (.var 3)))
  (.cons (.asg (.one 5) (.call "_law_drawn" (.cons (.var 0) (.cons (.cst (.int 10)) .nil))))
  (.cons (.ifs (.both (.nott (.idx (.idx (.var 1) (.cst (.str "goes"))) (.var 3))) (.both (.cmp .ne (.var 4) (.lst .nil)) (.cmp .lt (.var 5) (.cst (.int 4))))) (.cons (.ret (.tup (.cons (.cst (.str "found")) (.cons (.idx (.var 4) (.call "_law_drawn" (.cons (.var 0) (.cons (.bi1 "len" (.var 4)) .nil)))) .nil))))
  .nil) .nil)
  (.cons (.ifs (.both (.nott (.idx (.idx (.var 1) (.cst (.str "goes"))) (.var 3))) (.cmp .lt (.var 5) (.cst (.int 7)))) (.cons (.ret (.tup (.cons (.cst (.str "settle")) (.cons (.var 3) (.cons (.call "_law_drawn" (.cons (.var 0) (.cons (.bin .add (.bi1 "len" (.var 4)) (.cst (.int 1))) .nil))) .nil)))))
  .nil) .nil)
  (.cons (.ifs (.cmp .lt (.var 5) (.cst (.int 4))) (.cons (.ret (.tup (.cons (.cst (.str "lend")) (.cons (.var 3) (.cons (.bin .add (.cst (.int 1)) (.call "_law_drawn" (.cons (.var 0) (.cons (.var 2) .nil)))) .nil)))))
  .nil) .nil)
  (.cons (.ifs (.cmp .lt (.var 5) (.cst (.int 7))) (.cons (.ret (.tup (.cons (.cst (.str "report")) (.cons (.var 3) (.cons (.call "_law_words" (.cons (.var 0) (.cons (.call "_law_drawn" (.cons (.var 0) (.cons (.bin .add (.bi1 "len" (.var 4)) (.cst (.int 1))) .nil))) .nil))) .nil)))))
  .nil) .nil)
  (.cons (.ifs (.cmp .eq (.var 5) (.cst (.int 7))) (.cons (.ret (.tup (.cons (.cst (.str "back")) (.cons (.var 3) .nil))))
  .nil) .nil)
  (.cons (.ifs (.cmp .eq (.var 5) (.cst (.int 8))) (.cons (.ret (.tup (.cons (.cst (.str "found")) (.cons (.bin .add (.cst (.int 1)) (.call "_law_drawn" (.cons (.var 0) (.cons (.idx (.var 1) (.cst (.str "top"))) .nil)))) .nil))))
  .nil) .nil)
  (.cons (.ret (.idx (.lst (.cons (.tup (.cons (.cst (.str "stop")) (.cons (.var 3) .nil))) (.cons (.tup (.cons (.cst (.str "lend")) (.cons (.var 3) (.cons (.bin .add (.cst (.int 1)) (.call "_law_drawn" (.cons (.var 0) (.cons (.var 2) .nil)))) .nil)))) .nil))) (.call "_law_drawn" (.cons (.var 0) (.cons (.cst (.int 2)) .nil)))))
  .nil))))))))))⟩
def F_law_odd : Fn := ⟨3, 4, (.cons (.ifs (.cmp .eq (.idx (.var 2) (.cst (.int 0))) (.cst (.str "found"))) (.cons (.ret (.tup (.cons (.cst (.str "found")) (.cons (.idx (.lst (.cons (.cst (.int 0)) (.cons (.call "_law_far" (.cons (.var 0) (.cons (.idx (.var 1) (.cst (.str "top"))) .nil))) .nil))) (.call "_law_drawn" (.cons (.var 0) (.cons (.cst (.int 2)) .nil)))) .nil))))
  .nil) .nil)
  (.cons (.asg (.one 3) (.call "_law_drawn" (.cons (.var 0) (.cons (.cst (.int 2)) .nil))))
  (.cons (.ifs (.either (.cmp .eq (.var 3) (.cst (.int 0))) (.cmp .eq (.bi1 "len" (.var 2)) (.cst (.int 2)))) (.cons (.ret (.bin .add (.tup (.cons (.idx (.var 2) (.cst (.int 0))) (.cons (.call "_law_far" (.cons (.var 0) (.cons (.bin .sub (.bi1 "len" (.idx (.var 1) (.cst (.str "lying")))) (.cst (.int 1))) .nil))) .nil))) (.slc (.var 2) (.yes (.cst (.int 2))) .no)))
  .nil) .nil)
  (.cons (.ifs (.cmp .eq (.idx (.var 2) (.cst (.int 0))) (.cst (.str "report"))) (.cons (.ret (.tup (.cons (.idx (.var 2) (.cst (.int 0))) (.cons (.idx (.var 2) (.cst (.int 1))) (.cons (.bin .add (.idx (.var 2) (.cst (.int 2))) (.lst (.cons (.cst (.str "lost")) .nil))) .nil)))))
  .nil) .nil)
  (.cons (.ret (.tup (.cons (.idx (.var 2) (.cst (.int 0))) (.cons (.idx (.var 2) (.cst (.int 1))) (.cons (.call "_law_far" (.cons (.var 0) (.cons (.cst (.int 400)) .nil))) .nil)))))
  .nil)))))⟩

section
variable {P : Prog} {W n : Nat} {ns : List Int}
theorem slice_tup (xs : List D) (lo hi : Option Int) : slice (.val (.tup xs)) lo hi = some (.val (.tup (cutD xs lo hi))) := rfl
theorem bin_addTT (xs ys : List D) : bin .add (.val (.tup xs)) (.val (.tup ys)) = if xs.length + ys.length ≤ LIM then some (.val (.tup (xs ++ ys))) else none := rfl
theorem far_ok (hl : look P "_law_drawn" = some fDrawn) (hl2 : look P "_law_far" = some F_law_far) {s : Store} (hS : St ns s) (most : Int) : ∃ (z : Int) (s' : Store), run P W (n + 2) "_law_far" [.loc 0, .int most] s = .ok (.val (.int z)) s' ∧ Dr ns s s' := by
  obtain ⟨d1, s1, r1, p1, q1, D1⟩ := drawn_ok (P := P) (W := W) (n := n) hl (many := 3) (by omega) (by omega) hS
  obtain ⟨c, ⟨hc1, hc2⟩, hcx⟩ : ∃ c : Int, (0 < c ∧ c < 2 ^ 200) ∧ L2.atI [D.int 1, D.int 200, D.int 100000000000000000000000000000000000000000000000000000000000] d1 = some (.int c) := by
    obtain ⟨v, hv, e⟩ := atI_mem (xs := [D.int 1, D.int 200, D.int 100000000000000000000000000000000000000000000000000000000000]) p1 (by simpa using q1)
    simp only [List.mem_cons, List.not_mem_nil, or_false] at hv
    rcases hv with rfl | rfl | rfl
    all_goals exact ⟨_, by omega, e⟩
  obtain ⟨d2, s2, r2, p2, q2, D2⟩ := drawn_ok (P := P) (W := W) (n := n) hl (many := c) hc1 hc2 D1.1
  obtain ⟨d3, s3, r3, p3, q3, D3⟩ := drawn_ok (P := P) (W := W) (n := n) hl (many := c) hc1 hc2 D2.1
  obtain ⟨d4, s4, r4, p4, q4, D4⟩ := drawn_ok (P := P) (W := W) (n := n) hl (many := 2) (by omega) (by omega) D3.1
  obtain ⟨z, hz⟩ : ∃ z : Int, L2.atI [D.int (-1 - d2), D.int (most + 1 + d3)] d4 = some (.int z) := by
    obtain ⟨v, hv, e⟩ := atI_mem (xs := [D.int (-1 - d2), D.int (most + 1 + d3)]) p4 (by simpa using q4)
    simp only [List.mem_cons, List.not_mem_nil, or_false] at hv
    rcases hv with rfl | rfl
    all_goals exact ⟨_, e⟩
  have hD := ((D1.trans D2).trans D3).trans D4
  refine ⟨z, s4, ?_, hD⟩
  rw [run_eq hl2 rfl (by decide)]
  simp [F_law_far, begun, bin_powI, r1, hcx, r2, r3, r4, hz, gc_len, hD.len]
theorem gwords_lc (hl : look P "_law_drawn" = some fDrawn) {a1 : Option M} : ∀ (l : List D) (s0 s : Store) (acc : List D), St ns s → ∃ (ws : List Str) (s' : Store), lcL [] s0 [2] (.one 2) (evc (run P W (n + 1)) .no) (valD (ev (run P W (n + 1)) (.idx (.lst (.cons (.cst (.str "paper")) (.cons (.cst (.str "spoilt")) (.cons (.cst (.str "paper")) .nil)))) (.call "_law_drawn" (.cons (.var 0) (.cons (.cst (.int 3)) .nil)))))) l acc [some (.val (.loc 0)), a1, none] s = .ok (acc ++ ws.map .str) [some (.val (.loc 0)), a1, none] s' ∧ ws.length = l.length ∧ (∀ w ∈ ws, w ∈ strL) ∧ Dr ns s s'
  | [], s0, s, acc, h => ⟨[], s, by
      rw [show ([] : List Str).map D.str = [] from rfl, List.append_nil]
      exact if_pos (still_nil _ _), rfl, (fun w hw => by cases hw), Dr.refl h⟩
  | x :: l, s0, s, acc, h => by
    obtain ⟨k, s1, hr, h0, h1, hD⟩ := drawn_ok (P := P) (W := W) (n := n) hl (many := 3) (by omega) (by omega) h
    obtain ⟨w, hw, hx⟩ : ∃ w ∈ strL, L2.atI [D.str "paper", D.str "spoilt", D.str "paper"] k = some (.str w) := by
      obtain ⟨v, hv, e⟩ := atI_mem (xs := [D.str "paper", D.str "spoilt", D.str "paper"]) h0 (by simpa using h1)
      simp only [List.mem_cons, List.not_mem_nil, or_false] at hv
      rcases hv with rfl | rfl | rfl
      · exact ⟨_, by simp [strL], e⟩
      · exact ⟨_, by simp [strL], e⟩
      · exact ⟨_, by simp [strL], e⟩
    obtain ⟨ws, s', h2, h3, h4, h5⟩ := gwords_lc hl (a1 := a1) l s0 s1 (acc ++ [.str w]) hD.1
    refine ⟨w :: ws, s', ?_, by rw [List.length_cons, List.length_cons, h3], fun z hz => ?_, hD.trans h5⟩
    · unfold lcL
      rw [if_pos (still_nil _ _)]
      simp [hr, hx, wipe]
      rw [h2, List.append_assoc]
      rfl
    · cases hz with
      | head => exact hw
      | tail _ hz => exact h4 z hz
theorem words_ok (hl : look P "_law_drawn" = some fDrawn) (hl2 : look P "_law_words" = some F_law_words) {s : Store} (hS : St ns s) {m : Int} (h0 : 0 ≤ m) (h1 : m ≤ 99000) : ∃ (ws : List Str) (s' : Store), run P W (n + 2) "_law_words" [.loc 0, .int m] s = .ok (.ol (ws.map .str)) s' ∧ ws.length ≤ 99000 ∧ (∀ w ∈ ws, w ∈ strL) ∧ Dr ns s s' := by
  obtain ⟨ws, s', r, l, hw, hD⟩ := gwords_lc (P := P) (W := W) (n := n) hl (a1 := some (.val (.int m))) (rng 0 m) s s [] hS
  rw [rng_len] at l
  have hr : (rng 0 m).length ≤ LIM := by
    rw [rng_len]
    exact Nat.le_trans (show (m - 0).toNat ≤ 99000 by omega) (by decide)
  refine ⟨ws, s', ?_, by omega, hw, hD⟩
  rw [List.nil_append] at r
  rw [run_eq hl2 rfl (by decide)]
  simp [F_law_words, begun, getI_ok' (i := m) (by omega) (by omega), lcK, wipeOk, hr, wipe]
  rw [r]
  simp [lcEnd, back, gc_len, hD.len]
def Job.drawn : Job → Prop
  | .report _ ws => (∀ w ∈ ws, w ∈ strL) ∧ ws.length ≤ 99000
  | _ => True
theorem gdeed (hl : look P "_law_drawn" = some fDrawn) (hw : look P "_law_words" = some F_law_words) (hl2 : look P "_law_deed" = some F_law_deed) {s : Store} {b : Nat} {X : Off} (hb : 0 < b) (A : ModAt b X s) (hS : St ns s) (h1 : 0 < X.dsk.length) {t : Nat} (F : Fit t X) (ht : t ≤ 129) (htop : 1 ≤ X.top) {wide : Int} (hw0 : 0 < wide) (hw1 : wide < 1000) : ∃ (w : Job) (s' : Store), run P W (n + 3) "_law_deed" [.loc 0, .loc (b + 3), .int wide] s = .ok (.val w.d) s' ∧ Dr ns s s' ∧ w.drawn := by
  obtain ⟨vl, hly⟩ := A.ly
  obtain ⟨vd, hdi⟩ := A.di
  have hn6 := F.n6
  have htp := F.top
  obtain ⟨d1, s1, r1, p1, q1, D1⟩ := drawn_ok (P := P) (W := W) (n := n + 1) hl (many := X.dsk.length) (by omega) (by omega) hS
  obtain ⟨j, rfl⟩ : ∃ j : Nat, d1 = j := ⟨d1.toNat, by omega⟩
  have hj : j < X.dsk.length := by omega
  have hk := List.getElem?_eq_getElem hj
  obtain ⟨_, _, _, hK, _⟩ := fit_ok F ht (List.getElem_mem hj)
  generalize X.dsk[j] = k at hk hK
  obtain ⟨vl1, hly1⟩ := (D1.mod hb A).ly
  obtain ⟨vd1, hdi1⟩ := (D1.mod hb A).di
  have hat := ly_at hk
  have hga := go_at hk
  obtain ⟨way, s2, r2, p2, q2, D2⟩ := drawn_ok (P := P) (W := W) (n := n + 1) hl (many := 10) (by omega) (by omega) D1.1
  have A2 := D2.mod hb (D1.mod hb A)
  obtain ⟨vl2, hly2⟩ := A2.ly
  obtain ⟨vd2, hdi2⟩ := A2.di
  obtain ⟨vg2, hgo2⟩ := A2.go
  have D12 := D1.trans D2
  have hne : cmp .ne (.val (.lst (k.lying.map D.int))) (.ol []) = some (!k.lying.isEmpty) := by
    rw [ne_L0 (a := .val (.lst (k.lying.map D.int))) (xs := k.lying.map D.int) rfl (lay_ints _)]
    cases k.lying <;> rfl
  rw [run_eq hl2 rfl (by decide)]
  by_cases f1 : k.goes = false ∧ k.lying ≠ [] ∧ way < 4
  · obtain ⟨g1, g2, g3⟩ := f1
    have hlen : 0 < k.lying.length := List.length_pos_iff.mpr g2
    obtain ⟨d3, s3, r3, p3, q3, D3⟩ := drawn_ok (P := P) (W := W) (n := n + 1) hl (many := k.lying.length) (by omega) (by omega) D2.1
    obtain ⟨z, hz⟩ : ∃ z : Int, L2.atI (k.lying.map D.int) d3 = some (.int z) := by
      obtain ⟨v, hv, e⟩ := atI_mem (xs := k.lying.map D.int) p3 (by simpa using q3)
      obtain ⟨z, _, rfl⟩ := List.mem_map.mp hv
      exact ⟨z, e⟩
    have hD := D12.trans D3
    refine ⟨.found z, s3, ?_, hD, trivial⟩
    rw [g1] at hga
    have hem : k.lying.isEmpty = false := by cases hl : k.lying with
      | nil => exact absurd hl g2
      | cons a r => rfl
    rw [hem] at hne
    simp [F_law_deed, begun, hdi, hly, r1, hdi1, hly1, hat, r2, hdi2, hgo2, hga, hne, g3, r3, hz, gc_len, hD.len, Job.d]
  · by_cases f2 : k.goes = false ∧ way < 7
    · obtain ⟨g1, g2⟩ := f2
      obtain ⟨d3, s3, r3, p3, q3, D3⟩ := drawn_ok (P := P) (W := W) (n := n + 1) hl (many := (k.lying.length : Int) + 1) (by omega) (by omega) D2.1
      have hD := D12.trans D3
      refine ⟨.settle j d3, s3, ?_, hD, trivial⟩
      rw [g1] at hga
      cases hem : k.lying.isEmpty with
      | true =>
        rw [hem] at hne
        simp [F_law_deed, begun, hdi, hly, r1, hdi1, hly1, hat, r2, hdi2, hgo2, hga, hne, g2, r3, gc_len, hD.len, Job.d]
      | false =>
        rw [hem] at hne
        have g4 : ¬ way < 4 := fun z => f1 ⟨g1, (fun z => by rw [z] at hem; cases hem), z⟩
        simp [F_law_deed, begun, hdi, hly, r1, hdi1, hly1, hat, r2, hdi2, hgo2, hga, hne, g2, g4, r3, gc_len, hD.len, Job.d]
    · by_cases w7 : way < 7
      · have hgt : k.goes = true := by
          cases hg : k.goes with
          | true => rfl
          | false => exact absurd ⟨hg, w7⟩ f2
        rw [hgt] at hga
        by_cases w4 : way < 4
        · obtain ⟨d3, s3, r3, p3, q3, D3⟩ := drawn_ok (P := P) (W := W) (n := n + 1) hl (many := wide) hw0 (by omega) D2.1
          have hD := D12.trans D3
          refine ⟨.lend j (1 + d3), s3, ?_, hD, trivial⟩
          simp [F_law_deed, begun, hdi, hly, r1, hdi1, hly1, hat, r2, hdi2, hgo2, hga, w4, r3, gc_len, hD.len, Job.d]
        · obtain ⟨d3, s3, r3, p3, q3, D3⟩ := drawn_ok (P := P) (W := W) (n := n + 1) hl (many := (k.lying.length : Int) + 1) (by omega) (by omega) D2.1
          obtain ⟨ws, s4, r4, l4, m4, D4⟩ := words_ok (P := P) (W := W) (n := n) hl hw D3.1 p3 (by omega)
          have hD := (D12.trans D3).trans D4
          refine ⟨.report j ws, s4, ?_, hD, m4, l4⟩
          simp [F_law_deed, begun, hdi, hly, r1, hdi1, hly1, hat, r2, hdi2, hgo2, hga, w4, w7, r3, r4, gc_len, hD.len, Job.d]
      · have w4 : ¬ way < 4 := by omega
        by_cases e7 : way = 7
        · refine ⟨.back j, s2, ?_, D12, trivial⟩
          subst e7
          cases hgo : k.goes <;> cases hem : k.lying.isEmpty <;> rw [hgo] at hga <;> rw [hem] at hne <;> simp [F_law_deed, begun, hdi, hly, r1, hdi1, hly1, hat, r2, hdi2, hgo2, hga, hne, gc_len, D12.len, Job.d]
        · by_cases e8 : way = 8
          · subst e8
            obtain ⟨d3, s3, r3, p3, q3, D3⟩ := drawn_ok (P := P) (W := W) (n := n + 1) hl (many := X.top) (by omega) (by omega) D2.1
            have hD := D12.trans D3
            refine ⟨.found (1 + d3), s3, ?_, hD, trivial⟩
            cases hgo : k.goes <;> cases hem : k.lying.isEmpty <;> rw [hgo] at hga <;> rw [hem] at hne <;> simp [F_law_deed, begun, hdi, hly, r1, hdi1, hly1, hat, r2, hdi2, hgo2, hga, hne, r3, gc_len, hD.len, Job.d]
          · obtain ⟨d3, s3, r3, p3, q3, D3⟩ := drawn_ok (P := P) (W := W) (n := n + 1) hl (many := wide) hw0 (by omega) D2.1
            obtain ⟨d4, s4, r4, p4, q4, D4⟩ := drawn_ok (P := P) (W := W) (n := n + 1) hl (many := 2) (by omega) (by omega) D3.1
            have hD := (D12.trans D3).trans D4
            obtain ⟨w, hwx, hwd⟩ : ∃ w : Job, L2.atI [D.tup [.str "stop", .int j], D.tup [.str "lend", .int j, .int (1 + d3)]] d4 = some w.d ∧ w.drawn := by
              obtain ⟨v, hv, e⟩ := atI_mem (xs := [D.tup [.str "stop", .int j], D.tup [.str "lend", .int j, .int (1 + d3)]]) p4 (by simpa using q4)
              simp only [List.mem_cons, List.not_mem_nil, or_false] at hv
              rcases hv with rfl | rfl
              · exact ⟨.stop j, e, trivial⟩
              · exact ⟨.lend j (1 + d3), e, trivial⟩
            refine ⟨w, s4, ?_, hD, hwd⟩
            cases hgo : k.goes <;> cases hem : k.lying.isEmpty <;> rw [hgo] at hga <;> rw [hem] at hne <;> simp [F_law_deed, begun, hdi, hly, r1, hdi1, hly1, hat, r2, hdi2, hgo2, hga, hne, w4, w7, e7, e8, r3, r4, hwx, gc_len, hD.len]
theorem Job.drawn_small {w : Job} (h : w.drawn) : w.small := by
  cases w with
  | report d ws => exact ⟨fun w hw => strL_lay w (h.1 w hw), Nat.le_trans h.2 (by decide)⟩
  | _ => trivial
theorem lost_lay : (D.str "lost").lay = true := by decide +kernel
/-- a deed is made odd -/
theorem godd (hl : look P "_law_drawn" = some fDrawn) (hf : look P "_law_far" = some F_law_far) (hl2 : look P "_law_odd" = some F_law_odd) {s : Store} {b : Nat} {X : Off} (hb : 0 < b) (A : ModAt b X s) (hS : St ns s) (w : Job) (hw : w.drawn) : ∃ (w' : Job) (s' : Store), run P W (n + 3) "_law_odd" [.loc 0, .loc (b + 3), w.d] s = .ok (.val w'.d) s' ∧ Dr ns s s' ∧ w'.small := by
  have hL : 100 ≤ LIM := by decide
  obtain ⟨vd, hdi⟩ := A.di
  rw [run_eq hl2 rfl (by decide)]
  by_cases hfd : ∃ num, w = .found num
  · obtain ⟨num, rfl⟩ := hfd
    obtain ⟨z, s1, r1, D1⟩ := far_ok (P := P) (W := W) (n := n) hl hf hS X.top
    obtain ⟨d2, s2, r2, p2, q2, D2⟩ := drawn_ok (P := P) (W := W) (n := n + 1) hl (many := 2) (by omega) (by omega) D1.1
    obtain ⟨y, hy⟩ : ∃ y : Int, L2.atI [D.int 0, D.int z] d2 = some (.int y) := by
      obtain ⟨v, hv, e⟩ := atI_mem (xs := [D.int 0, D.int z]) p2 (by simpa using q2)
      simp only [List.mem_cons, List.not_mem_nil, or_false] at hv
      rcases hv with rfl | rfl
      all_goals exact ⟨_, e⟩
    have hD := D1.trans D2
    refine ⟨.found y, s2, ?_, hD, trivial⟩
    simp [F_law_odd, begun, Job.d, hdi, r1, r2, hy, gc_len, hD.len]
  · obtain ⟨d1, s1, r1, p1, q1, D1⟩ := drawn_ok (P := P) (W := W) (n := n + 1) hl (many := 2) (by omega) (by omega) hS
    have A1 := D1.mod hb A
    obtain ⟨vl1, hly1⟩ := A1.ly
    obtain ⟨vd1, hdi1⟩ := A1.di
    obtain ⟨z, s2, r2, D2⟩ := far_ok (P := P) (W := W) (n := n) hl hf D1.1 ((X.dsk.length : Int) - 1)
    obtain ⟨y, s3, r3, D3⟩ := far_ok (P := P) (W := W) (n := n) hl hf D1.1 400
    have hD2 := D1.trans D2
    have hD3 := D1.trans D3
    have cut2 : ∀ xs : List D, cutD xs (some 2) none = xs.drop 2 := fun xs => cut_drop xs 2
    cases w with
    | found num => exact absurd ⟨num, rfl⟩ hfd
    | back d =>
      refine ⟨.back z, s2, ?_, hD2, trivial⟩
      by_cases w0 : d1 = 0
      · subst w0
        simp [F_law_odd, begun, Job.d, r1, hdi1, hly1, r2, slice_tup, cut2, bin_addTT, hL, gc_len, hD2.len, LIM]
      · simp [F_law_odd, begun, Job.d, r1, w0, hdi1, hly1, r2, slice_tup, cut2, bin_addTT, gc_len, hD2.len, LIM]
    | stop d =>
      refine ⟨.stop z, s2, ?_, hD2, trivial⟩
      by_cases w0 : d1 = 0
      · subst w0
        simp [F_law_odd, begun, Job.d, r1, hdi1, hly1, r2, slice_tup, cut2, bin_addTT, gc_len, hD2.len, LIM]
      · simp [F_law_odd, begun, Job.d, r1, w0, hdi1, hly1, r2, slice_tup, cut2, bin_addTT, gc_len, hD2.len, LIM]
    | lend d m =>
      by_cases w0 : d1 = 0
      · subst w0
        refine ⟨.lend z m, s2, ?_, hD2, trivial⟩
        simp [F_law_odd, begun, Job.d, r1, hdi1, hly1, r2, slice_tup, cut2, bin_addTT, gc_len, hD2.len, LIM]
      · refine ⟨.lend d y, s3, ?_, hD3, trivial⟩
        simp [F_law_odd, begun, Job.d, r1, w0, r3, gc_len, hD3.len]
    | settle d m =>
      by_cases w0 : d1 = 0
      · subst w0
        refine ⟨.settle z m, s2, ?_, hD2, trivial⟩
        simp [F_law_odd, begun, Job.d, r1, hdi1, hly1, r2, slice_tup, cut2, bin_addTT, gc_len, hD2.len, LIM]
      · refine ⟨.settle d y, s3, ?_, hD3, trivial⟩
        simp [F_law_odd, begun, Job.d, r1, w0, r3, gc_len, hD3.len]
    | report d ws =>
      by_cases w0 : d1 = 0
      · subst w0
        refine ⟨.report z ws, s2, ?_, hD2, Job.drawn_small (w := .report z ws) hw⟩
        simp [F_law_odd, begun, Job.d, r1, hdi1, hly1, r2, slice_tup, cut2, bin_addTT, gc_len, hD2.len, LIM]
      · refine ⟨.report d (ws ++ [("lost" : Str)]), s1, ?_, D1, ?_⟩
        · have ha : bin .add (.val (.lst (ws.map D.str))) (.ol [.str "lost"]) = some (.ol (ws.map D.str ++ [.str "lost"])) := bin_addL rfl rfl (by
            rw [List.length_map]
            have := hw.2
            exact Nat.le_trans (show ws.length + 1 ≤ 100000 by omega) (by decide))
          simp [F_law_odd, begun, Job.d, r1, w0, ha, gc_len, D1.len]
        · refine ⟨fun x hx => ?_, ?_⟩
          · rcases List.mem_append.mp hx with hx | hx
            · exact strL_lay x (hw.1 x hx)
            · rw [List.mem_singleton] at hx
              rw [hx]; exact lost_lay
          · rw [List.length_append, List.length_singleton]
            have := hw.2
            omega
end
end OI.Y

/-! OG5: k03: the law. -/
namespace OI.Y
open PySem (Str)
def F3_turn : ISs := (.cons (.asg (.one 7) (.call "_law_deed" (.cons (.var 1) (.cons (.var 5) (.cons (.cst (.int 8)) .nil)))))
  (.cons (.ifs (.cmp .eq (.call "_law_drawn" (.cons (.var 1) (.cons (.cst (.int 6)) .nil))) (.cst (.int 5))) (.cons (.asg (.one 7) (.call "_law_odd" (.cons (.var 1) (.cons (.var 5) (.cons (.var 7) .nil)))))
  .nil) .nil)
  (.cons (.asg (.one 8) (.call "_law_due" (.cons (.var 5) (.cons (.var 7) .nil))))
  (.cons (.asg (.one 9) (.call "_law_told" (.cons (.var 4) (.cons (.var 7) .nil))))
  (.cons (.ifs (.nott (.call "_law_same" (.cons (.var 9) (.cons (.var 8) .nil)))) (.cons (.ret (.cst (.bl false)))
  .nil) .nil)
  (.cons (.ifs (.isi (.var 9) true [.lst]) (.cons (.mut1 "append" (.var 9) (.cst (.int 0)))
  .nil) .nil)
  (.cons (.fors (.one 10) (.rng1 (.var 3)) (.cons (.mut1 "append" (.meth (.var 4) "Office" "rest" (.cons (.var 10) .nil)) (.cst (.int 0)))
  .nil))
  (.cons (.ifs (.nott (.call "_law_is" (.cons (.var 4) (.cons (.var 5) .nil)))) (.cons (.ret (.cst (.bl false)))
  .nil) .nil)
  .nil))))))))
def F3_law : Fn := ⟨1, 11, (.cons (.asg (.one 1) (.call "_law_start" (.cons (.var 0) .nil)))
  (.cons (.asg (.one 2) (.idx (.lst (.cons (.cst (.int 20)) (.cons (.cst (.int 60)) (.cons (.bin .add (.cst (.int 1)) (.call "_law_drawn" (.cons (.var 1) (.cons (.cst (.int 400)) .nil)))) .nil)))) (.call "_law_drawn" (.cons (.var 1) (.cons (.cst (.int 3)) .nil)))))
  (.cons (.asg (.one 3) (.bin .add (.cst (.int 1)) (.call "_law_drawn" (.cons (.var 1) (.cons (.cst (.int 6)) .nil)))))
  (.cons (.asg (.one 4) (.new "Office" (.cons (.var 2) (.cons (.var 3) .nil))))
  (.cons (.asg (.one 5) (.call "_law_office" (.cons (.var 2) (.cons (.var 3) .nil))))
  (.cons (.fors (.one 6) (.rng1 (.call "_law_drawn" (.cons (.var 1) (.cons (.cst (.int 41)) .nil)))) F3_turn)
  (.cons (.ret (.cst (.bl true)))
  .nil)))))))⟩
/-- the office, its laws and their model are there -/
structure KG (P : Prog) : Prop where
  off : OfB P
  need : look P "Office.need_number" = some F_Office_need_number
  foundO : look P "Office.found" = some F_Office_found
  settleO : look P "Office.settle" = some F_Office_settle
  start : look P "_law_start" = some fStart
  drawn : look P "_law_drawn" = some fDrawn
  same : look P "_law_same" = some fSame
  office : look P "_law_office" = some F_law_office
  holder : look P "_law_holder" = some F_law_holder
  lent : look P "_law_lent" = some F_law_lent
  reported : look P "_law_reported" = some F_law_reported
  found : look P "_law_found" = some F_law_found
  settled : look P "_law_settled" = some F_law_settled
  due : look P "_law_due" = some F_law_due
  does : look P "_law_does" = some F_law_does
  told : look P "_law_told" = some F_law_told
  words : look P "_law_words" = some F_law_words
  deed : look P "_law_deed" = some F_law_deed
/-! how a deed grows things -/
theorem sput_len' (ns : List Int) (n : Int) : (sput ns n).length ≤ ns.length + 1 := sput_len ns n
theorem Fit.up {t : Nat} {X : Off} (F : Fit t X) : Fit (t + 1) X where
  top := F.top
  n6 := F.n6
  ly := fun k hk => by have := F.ly k hk; omega
  w := by have := F.w; omega
  se := by have := F.se; omega
  low := F.low
  held := F.held
theorem Fit.setD {t : Nat} {X : Off} (F : Fit t X) (ht : t ≤ 129) {j : Nat} {k' : Dsk} (ws : List (Int × Str)) (se : List Int) (hl : k'.lying.length ≤ 400 * (t + 1)) (hw : ws.length ≤ X.words.length + 52000) (hs : se.length ≤ X.seen.length + 1) (h1 : ∀ i, k'.low = some i → 0 ≤ i) (h2 : k'.goes = false → k'.lying ≠ [] → k'.low ≠ none) : Fit (t + 1) (({ X with words := ws, seen := se } : Off).setD j k') where
  top := F.top
  n6 := by show (X.dsk.set j k').length ≤ 6; rw [List.length_set]; exact F.n6
  ly := fun k hk => by
    rcases List.mem_or_eq_of_mem_set hk with h | rfl
    · have := F.ly k h; omega
    · exact hl
  w := by
    show ws.length ≤ _
    have := F.w
    omega
  se := by
    show se.length ≤ _
    have := F.se
    omega
  low := fun k hk => by
    rcases List.mem_or_eq_of_mem_set hk with h | rfl
    · exact F.low k h
    · exact h1
  held := fun k hk => by
    rcases List.mem_or_eq_of_mem_set hk with h | rfl
    · exact F.held k h
    · exact h2
/-- a list told is no longer than what may lie -/
def Ans.fit (t : Nat) (a : Ans) : Prop := ∀ ns, a = .lst ns → ns.length ≤ 400 * t
theorem fit_act {t : Nat} {X : Off} (F : Fit t X) (ht : t ≤ 129) {j : Nat} {w : Deed} (hj : w.j = j) {k : Dsk} (h : X.dsk[j]? = some k) (hg : k.goes = true) : Fit (t + 1) (act X k w).1 ∧ (act X k w).2.fit t := by
  subst hj
  have hm := List.mem_of_getElem? h
  have hl := F.ly k hm
  cases w with
  | lend j m =>
    unfold act
    dsimp only
    split
    · exact ⟨F.up, fun ns h => by cases h⟩
    · rename_i hm1
      split
      · rename_i x hb
        obtain ⟨h1, h2, _, _⟩ := block_some (by omega) hb
        have htop := F.top
        refine ⟨F.setD (X := X) ht (k' := k.lent (x - m + 1) x) X.words X.seen ?_ (by omega) (by omega) (fun i hi => F.low k hm i hi) (fun z => by rw [show (k.lent (x - m + 1) x).goes = k.goes from rfl, hg] at z; cases z), fun ns h => by cases h⟩
        · show (k.lying ++ rgI (x - m + 1) (x + 1)).length ≤ _
          rw [List.length_append, rgI_len]
          omega
      · exact ⟨F.up, fun ns h => by cases h⟩
  | report j ws =>
    unfold act
    dsimp only
    split
    · exact ⟨F.up, fun ns h => by cases h⟩
    · split
      · exact ⟨F.up, fun ns h => by cases h⟩
      · refine ⟨F.setD (X := X) ht (k' := k.rep ws.length) _ X.seen ?_ ?_ (by omega) (fun i hi => F.low k hm i hi) (fun z => by rw [show (k.rep ws.length).goes = k.goes from rfl, hg] at z; cases z), fun ns h => ?_⟩
        · show (k.lying.drop ws.length).length ≤ _
          rw [List.length_drop]; omega
        · have := wputs_len ((k.lying.take ws.length).zip ws) X.words
          rw [List.length_zip, List.length_take] at this
          omega
        · cases h
          rw [List.length_take]; omega
  | back j =>
    refine ⟨F.setD (X := X) ht (k' := k.cleared) X.words X.seen (Nat.zero_le _) (by omega) (by omega) (fun i hi => F.low k hm i hi) (fun _ z => absurd rfl z), fun ns h => ?_⟩
    cases h
    rw [sortI_len]
    exact hl
theorem fit_jact {t : Nat} {X : Off} (F : Fit t X) (ht : t ≤ 129) (w : Job) : Fit (t + 1) (jact X w).1 ∧ (jact X w).2.fit t := by
  have no : ∀ c, Fit (t + 1) X ∧ (Ans.err c).fit t := fun c => ⟨F.up, fun ns h => by cases h⟩
  cases w with
  | lend d m =>
    unfold jact; dsimp only
    split
    · exact no _
    · rename_i k hg
      obtain ⟨j, rfl, hk, hjn⟩ := get_some hg
      split
      · rename_i hgo
        exact fit_act F ht (w := .lend (j : Int).toNat m) hjn hk hgo
      · exact no _
  | report d m =>
    unfold jact; dsimp only
    split
    · exact no _
    · rename_i k hg
      obtain ⟨j, rfl, hk, hjn⟩ := get_some hg
      split
      · rename_i hgo
        exact fit_act F ht (w := .report (j : Int).toNat m) hjn hk hgo
      · exact no _
  | back d =>
    unfold jact; dsimp only
    split
    · exact no _
    · rename_i k hg
      obtain ⟨j, rfl, hk, hjn⟩ := get_some hg
      split
      · rename_i hgo
        exact fit_act F ht (w := .back (j : Int).toNat) hjn hk hgo
      · exact no _
  | stop d =>
    unfold jact; dsimp only
    split
    · exact no _
    · rename_i k hg
      obtain ⟨j, rfl, hk, hjn⟩ := get_some hg
      have hl := F.ly k (List.mem_of_getElem? hk)
      split
      · rename_i hgo
        refine ⟨F.setD (X := X) ht (k' := k.stopped) X.words X.seen (show k.lying.length ≤ _ by omega) (by omega) (by omega) (fun i hi => ?_) (fun _ _ z => by cases z), fun ns h => ?_⟩
        · have : some (0 : Int) = some i := hi
          cases this
          exact Int.le_refl _
        · cases h; exact hl
      · exact no _
  | found num =>
    unfold jact; dsimp only
    split
    · exact no _
    · split
      · exact no _
      · split
        · exact no _
        · split
          · exact no _
          · rename_i k hk
            split
            · exact no _
            · refine ⟨F.setD (X := X) ht (k' := k.lowMax num) X.words (sput X.seen num) (show k.lying.length ≤ _ by have := F.ly k (List.mem_of_getElem? hk); omega) (by omega) (sput_len' _ _) (fun i hi => ?_) (fun _ _ z => by cases z), fun ns h => by cases h⟩
              have : some (max (k.low.getD 0) (idxI num k.lying + 1)) = some i := hi
              cases this
              omega
  | settle d m =>
    unfold jact; dsimp only
    split
    · exact no _
    · rename_i k hg
      obtain ⟨j, rfl, hk, hjn⟩ := get_some hg
      have hl := F.ly k (List.mem_of_getElem? hk)
      split
      · exact no _
      · split
        · exact no _
        · refine ⟨F.setD (X := X) ht (k' := k.settled) (setW X (k.lying.take m.toNat)) X.seen (Nat.zero_le _) ?_ (by omega) (fun i hi => by cases hi) (fun _ z => absurd rfl z), fun ns h => ?_⟩
          · have := wputs_len ((k.lying.take m.toNat).map fun n => (n, usedW X n)) X.words
            rw [List.length_map, List.length_take] at this
            unfold setW
            omega
          · cases h
            rw [sortI_len, List.length_drop]
            omega
/-- an office and its model, apart from the drawing -/
structure Side (o : Nat) (dl : List Nat) (b t : Nat) (X : Off) (s : Store) : Prop where
  off : OffAt o dl X s
  mod : ModAt b X s
  fit : Fit t X
  n0 : 0 < X.dsk.length
  top1 : 1 ≤ X.top
  o1 : 0 < o
  ob : o < b
  d1 : ∀ d ∈ dl, o < d ∧ d < b
  len : b + 6 ≤ s.length
theorem Side.low {o : Nat} {dl : List Nat} {b t : Nat} {X : Off} {s s' : Store} (S : Side o dl b t X s) (h : ∀ n, o ≤ n → n < b + 6 → s'[n]? = s[n]?) (hl : b + 6 ≤ s'.length) : Side o dl b t X s' where
  off := {
    off := by rw [h o (Nat.le_refl _) (by have := S.ob; omega)]; exact S.off.off
    len := S.off.len
    dsk := fun j d k h1 h2 => by
      have hd := S.d1 d (List.mem_of_getElem? h1)
      rw [h d (by omega) (by omega)]
      exact S.off.dsk j d k h1 h2
    nd := S.off.nd
    ne := S.off.ne }
  mod := by
    have hb := S.ob
    obtain ⟨h1, h2, h3, h4, h5, h6⟩ := S.mod
    exact ⟨by rw [h b (by omega) (by omega)]; exact h1, by rw [h (b + 1) (by omega) (by omega)]; exact h2, by rw [h (b + 2) (by omega) (by omega)]; exact h3, by rw [h (b + 3) (by omega) (by omega)]; exact h4, by rw [h (b + 4) (by omega) (by omega)]; exact h5, by rw [h (b + 5) (by omega) (by omega)]; exact h6⟩
  fit := S.fit
  n0 := S.n0
  top1 := S.top1
  o1 := S.o1
  ob := S.ob
  d1 := S.d1
  len := hl
theorem Side.dr {ns : List Int} {o : Nat} {dl : List Nat} {b t : Nat} {X : Off} {s s' : Store} (S : Side o dl b t X s) (D : Dr ns s s') : Side o dl b t X s' := by
  obtain ⟨_, e, rfl⟩ := D
  exact S.low (fun n h1 _ => List.getElem?_set_ne (by have := S.o1; omega)) (by rw [List.length_set]; exact S.len)
theorem Side.push {o : Nat} {dl : List Nat} {b t : Nat} {X : Off} {s : Store} (S : Side o dl b t X s) (u : Store) : Side o dl b t X (s ++ u) :=
  S.low (fun n _ h => List.getElem?_append_left (by have := S.len; omega)) (by rw [List.length_append]; have := S.len; omega)
theorem Side.high {o : Nat} {dl : List Nat} {b t : Nat} {X : Off} {s : Store} (S : Side o dl b t X s) {L : Nat} (hL : b + 6 ≤ L) (en : Ent) : Side o dl b t X (s.set L en) :=
  S.low (fun n _ h => List.getElem?_set_ne (by omega)) (by rw [List.length_set]; exact S.len)
section
variable {P : Prog} {W n : Nat} {ns : List Int} {o b t : Nat} {dl : List Nat} {X : Off} {s : Store}
/-- due -/
theorem Side.due (K : KG P) (S : Side o dl b t X s) (ht : t ≤ 129) (w : Job) (hw : w.small) : ∃ s', run P W (n + 3) "_law_due" [.loc (b + 3), w.d] s = .ok (jact X w).2.m s' ∧ OffAt o dl X s' ∧ ModAt b (jact X w).1 s' ∧ Fix [b, b + 1, b + 2, b + 4, b + 5] s s' := by
  obtain ⟨s', h1, h2, h3⟩ := gdue (W := W) (n := n) K.holder K.lent K.reported K.found K.settled K.due S.mod S.fit ht w hw
  refine ⟨s', h1, S.off.fix h3 fun n h z => ?_, h2, h3⟩
  simp at z
  have := S.ob
  cases h with
  | head => omega
  | tail _ h => have := (S.d1 _ h).2; omega
/-- told, where the model is ahead -/
theorem told_after (K : KG P) (S : Side o dl b t X s) (ht : t ≤ 129) (w : Job) (hw : w.small) {s2 : Store} (A2 : OffAt o dl X s2) (B2 : ModAt b (jact X w).1 s2) (F2 : Fix [b, b + 1, b + 2, b + 4, b + 5] s s2) : ∃ s3, run P W (n + 5) "_law_told" [.loc o, w.d] s2 = .ok (jact X w).2.m s3 ∧ Side o dl b (t + 1) (jact X w).1 s3 ∧ Fix (o :: dl) s2 s3 := by
  obtain ⟨s3, h3, A3, F3⟩ := gtold (W := W) (n := n) K.off K.does K.told K.need K.foundO K.settleO A2 S.fit ht w hw
  have hb := S.ob
  have B3 : ModAt b (jact X w).1 s3 := B2.fix F3 fun n h1 h2 z => by
    cases z with
    | head => omega
    | tail _ z => have := (S.d1 _ z).2; omega
  have e : (jact X w).1.dsk.length = X.dsk.length := by rw [← A3.len, A2.len]
  have e2 : (jact X w).1.top = X.top := by
    have h4 := B3.di
    have h5 := B2.di
    obtain ⟨v1, h4⟩ := h4
    obtain ⟨v5, hv5⟩ := S.mod.di
    have h6 : s3[b + 3]? = s[b + 3]? := by
      rw [F3.2 (b + 3) (fun z => by
        cases z with
        | head => omega
        | tail _ z => have := (S.d1 _ z).2; omega), F2.2 (b + 3) (fun z => by simp at z)]
    rw [h6, hv5] at h4
    have := Option.some.inj h4
    injection this with h7
    injection h7 with _ h8
    injection h8 with h9
    injection h9 with _ h10
    injection h10 with h11
    exact h11.symm
  refine ⟨s3, h3, ⟨A3, B3, (fit_jact S.fit ht w).1, by rw [e]; exact S.n0, by rw [e2]; exact S.top1, S.o1, S.ob, S.d1, ?_⟩, F3⟩
  rw [F3.1, F2.1]
  exact S.len
theorem St.keep {s s' : Store} (h : St ns s) (e : s'[0]? = s[0]?) : St ns s' := by
  obtain ⟨pos, mixed, rest, v, h0, hp⟩ := h
  exact ⟨pos, mixed, rest, v, by rw [e]; exact h0, hp⟩
/-- a deed due, then told: both alike -/
theorem Side.both (K : KG P) (S : Side o dl b t X s) (hS : St ns s) (ht : t ≤ 129) (w : Job) (hw : w.small) : ∃ (s2 s3 : Store), run P W (n + 5) "_law_due" [.loc (b + 3), w.d] s = .ok (jact X w).2.m s2 ∧ run P W (n + 5) "_law_told" [.loc o, w.d] s2 = .ok (jact X w).2.m s3 ∧ Side o dl b (t + 1) (jact X w).1 s3 ∧ St ns s3 ∧ s3.length = s.length := by
  have hb := S.ob
  have ho := S.o1
  obtain ⟨s2, h1, h2, h3, h4⟩ := S.due (W := W) (n := n + 2) K ht w hw
  obtain ⟨s3, h5, h6, h7⟩ := told_after (W := W) (n := n) K S ht w hw h2 h3 h4
  refine ⟨s2, s3, h1, h5, h6, hS.keep ?_, by rw [h7.1, h4.1]⟩
  rw [h7.2 0 (fun z => by
    cases z with
    | head => omega
    | tail _ z => have := (S.d1 _ z).1; omega), h4.2 0 (fun z => by simp at z; omega)]
end
end OI.Y

/-! OG6: k03: its turns, and the law. -/
namespace OI.Y
open PySem (Str)
structure K3 (P : Prog) : Prop where
  g : KG P
  v : OfP P
  is_ : look P "_law_is" = some F_law_is
  far : look P "_law_far" = some F_law_far
  odd : look P "_law_odd" = some F_law_odd
@[scoped simp] theorem at_tmp {e : Env} {s : Store} (xs : List D) (sl : List Nat) (s1 : Store) (f : M → Option M) : atK sl (.ol xs, .tmp) s1 f e s = if (f (.ol xs)).isSome = true then .ok .nx e s else .bad := by
  show (if _ ∧ _ ∧ _ then _ else _) = _
  simp [M.isVal]
def F3_rest : ISs := match F3_turn with | .cons _ (.cons _ r) => r | _ => .nil
theorem F3_turn_eq : F3_turn = .cons (.asg (.one 7) (.call "_law_deed" (.cons (.var 1) (.cons (.var 5) (.cons (.cst (.int 8)) .nil))))) (.cons (.ifs (.cmp .eq (.call "_law_drawn" (.cons (.var 1) (.cons (.cst (.int 6)) .nil))) (.cst (.int 5))) (.cons (.asg (.one 7) (.call "_law_odd" (.cons (.var 1) (.cons (.var 5) (.cons (.var 7) .nil))))) .nil) .nil) F3_rest) := rfl
section
variable {P : Prog} {W n : Nat} {ns : List Int} {o b t : Nat} {dl : List Nat} {X : Off} {s : Store}
theorem Side.is (K : KG P) (v : OfP P) (hi : look P "_law_is" = some F_law_is) (S : Side o dl b t X s) (ht : t ≤ 130) : run P W (n + 5) "_law_is" [.loc o, .loc (b + 3)] s = .ok (.val (.bl true)) s :=
  is_ok v K.same hi S.off S.mod (fun k hk => Nat.le_trans (S.fit.ly k hk) (Nat.le_trans (show 400 * t ≤ 52000 by omega) (by decide))) (by have := S.fit.n6; omega)
/-- each desk's rest, asked and changed -/
theorem rests (K : OfP P) (S : Side o dl b t X s) (ht : t ≤ 130) (a0 a1 a2 a3 a5 a6 a7 a8 a9 : Option M) : ∀ (l : List D) (s0 : Store) (a10 : Option M), (∀ x ∈ l, ∃ k : Nat, x = .int k ∧ k < X.dsk.length) → ∃ c10, forL [] s0 (.one 10) (execs (run P W (n + 2)) W (.cons (.mut1 "append" (.meth (.var 4) "Office" "rest" (.cons (.var 10) .nil)) (.cst (.int 0))) .nil)) l [a0, a1, a2, a3, some (.val (.loc o)), a5, a6, a7, a8, a9, a10] s = .ok .nx [a0, a1, a2, a3, some (.val (.loc o)), a5, a6, a7, a8, a9, c10] s
  | [], s0, a10, h => ⟨a10, if_pos (still_nil _ _)⟩
  | x :: l, s0, a10, h => by
    obtain ⟨j, rfl, hj⟩ := h _ (List.mem_cons_self ..)
    have hk := List.getElem?_eq_getElem hj
    obtain ⟨d, v, hdj, hds, _⟩ := S.off.at_ hk
    obtain ⟨vo, hv⟩ := S.off.off
    have hr := rest_ok (W := W) (n := n) K S.off hk hdj hds
    obtain ⟨c10, ih⟩ := rests K S ht a0 a1 a2 a3 a5 a6 a7 a8 a9 l s0 (some (.val (.int j))) fun x hx => h x (List.mem_cons_of_mem _ hx)
    have hL : 60000 ≤ LIM := by decide
    have hl := S.fit.ly _ (List.getElem_mem hj)
    have hz : (if (X.dsk[j]).goes = true then ([] : List D) else (X.dsk[j]).lying.map D.int).length < LIM := by
      split
      · show 0 < LIM; decide
      · rw [List.length_map]; omega
    refine ⟨c10, ?_⟩
    rw [forL_cons, if_pos (still_nil _ _)]
    simp [hv, offF, hr, hz]
    exact ih
theorem turn3 (K : K3 P) (S : Side o dl b t X s) (hS : St ns s) (ht : t ≤ 128) (a0 a2 a6 a7 a8 a9 a10 : Option M) : ∃ (X' : Off) (s' : Store) (c7 c8 c9 c10 : Option M), execs (run P W (n + 5)) W F3_turn [a0, some (.val (.loc 0)), a2, some (.val (.int dl.length)), some (.val (.loc o)), some (.val (.loc (b + 3))), a6, a7, a8, a9, a10] s = .ok .nx [a0, some (.val (.loc 0)), a2, some (.val (.int dl.length)), some (.val (.loc o)), some (.val (.loc (b + 3))), a6, c7, c8, c9, c10] s' ∧ Side o dl b (t + 1) X' s' ∧ St ns s' := by
  have hob := S.ob
  obtain ⟨w, s1, r1, D1, hw⟩ := gdeed (W := W) (n := n + 2) K.g.drawn K.g.words K.g.deed (by omega) S.mod hS S.n0 S.fit (by omega) S.top1 (wide := 8) (by omega) (by omega)
  have S1 := S.dr D1
  obtain ⟨d2, s2, r2, p2, q2, D2⟩ := drawn_ok (P := P) (W := W) (n := n + 4) K.g.drawn (many := 6) (by omega) (by omega) D1.1
  have S2 := S1.dr D2
  obtain ⟨en, hen⟩ : ∃ en, w.d = .tup en := by cases w <;> exact ⟨_, rfl⟩
  -- what follows when the deed is fixed
  have rest : ∀ (w : Job) (s2 : Store), w.small → Side o dl b t X s2 → St ns s2 → ∃ (X' : Off) (s' : Store) (c8 c9 c10 : Option M), execs (run P W (n + 5)) W F3_rest [a0, some (.val (.loc 0)), a2, some (.val (.int dl.length)), some (.val (.loc o)), some (.val (.loc (b + 3))), a6, some (.val w.d), a8, a9, a10] s2 = .ok .nx [a0, some (.val (.loc 0)), a2, some (.val (.int dl.length)), some (.val (.loc o)), some (.val (.loc (b + 3))), a6, some (.val w.d), c8, c9, c10] s' ∧ Side o dl b (t + 1) X' s' ∧ St ns s' := fun w s2 hw S2 hS2 => by
    obtain ⟨s3, s4, r3, r4, S4, hS4, hl4⟩ := S2.both (W := W) (n := n) K.g hS2 (by omega) w hw
    obtain ⟨en, hen⟩ : ∃ en, w.d = .tup en := by cases w <;> exact ⟨_, rfl⟩
    have hfit := (fit_jact S.fit (by omega) w).2
    have i4 := S4.is (W := W) (n := n) K.g K.v K.is_ (by omega)
    have hL : 60000 ≤ LIM := by decide
    have hn : (jact X w).1.dsk.length = dl.length := S4.off.len.symm
    have h6 := S4.fit.n6
    have hmem : ∀ x ∈ rng 0 (dl.length : Int), ∃ k : Nat, x = .int k ∧ k < (jact X w).1.dsk.length := fun x hx => by
      obtain ⟨k, rfl, hk⟩ := rng_mem hx
      exact ⟨k, rfl, by omega⟩
    rw [hen] at r3 r4 ⊢
    refine ⟨(jact X w).1, s4, ?_⟩
    revert r3 r4 hfit
    generalize (jact X w).2 = a
    intro r3 r4 hfit
    have hlo : (dl.length : Int) < 2 ^ 62 := by omega
    cases a with
    | lst ms =>
      have hz := hfit ms rfl
      have hsm := same_refl (W := W) K.g.same (n + 4) (.lst (ms.map .int)) s4 (by simp [D.plain, plain_ints, show ms.length ≤ LIM by omega]) (by simp [D.tall, talls_ints])
      have hz2 : ms.length < LIM := by omega
      obtain ⟨c10, hr⟩ := rests (W := W) (n := n + 3) K.v S4 (by omega) a0 (some (.val (.loc 0))) a2 (some (.val (.int dl.length))) (some (.val (.loc (b + 3)))) a6 (some (.val (.tup en))) (some (.ol (ms.map .int))) (some (.ol (ms.map .int ++ [.int 0]))) (rng 0 dl.length) s4 a10 hmem
      refine ⟨some (.ol (ms.map .int)), some (.ol (ms.map .int ++ [.int 0])), c10, ?_, S4, hS4⟩
      simp [F3_rest, F3_turn, r3, r4, Ans.m, hsm, hz2, getI_ok' (i := (dl.length : Int)) (by omega) hlo]
      rw [hr]
      simp [i4]
    | tup p q =>
      have hsm := same_refl (W := W) K.g.same (n + 4) (.tup [.int p, .int q]) s4 rfl (show 1 ≤ n + 4 by omega)
      obtain ⟨c10, hr⟩ := rests (W := W) (n := n + 3) K.v S4 (by omega) a0 (some (.val (.loc 0))) a2 (some (.val (.int dl.length))) (some (.val (.loc (b + 3)))) a6 (some (.val (.tup en))) (some (.val (.tup [.int p, .int q]))) (some (.val (.tup [.int p, .int q]))) (rng 0 dl.length) s4 a10 hmem
      refine ⟨some (.val (.tup [.int p, .int q])), some (.val (.tup [.int p, .int q])), c10, ?_, S4, hS4⟩
      simp [F3_rest, F3_turn, r3, r4, Ans.m, hsm, getI_ok' (i := (dl.length : Int)) (by omega) hlo]
      rw [hr]
      simp [i4]
    | non =>
      have hsm := same_refl (W := W) K.g.same (n + 4) .non s4 rfl (Nat.zero_le _)
      obtain ⟨c10, hr⟩ := rests (W := W) (n := n + 3) K.v S4 (by omega) a0 (some (.val (.loc 0))) a2 (some (.val (.int dl.length))) (some (.val (.loc (b + 3)))) a6 (some (.val (.tup en))) (some (.val .non)) (some (.val .non)) (rng 0 dl.length) s4 a10 hmem
      refine ⟨some (.val .non), some (.val .non), c10, ?_, S4, hS4⟩
      simp [F3_rest, F3_turn, r3, r4, Ans.m, hsm, getI_ok' (i := (dl.length : Int)) (by omega) hlo]
      rw [hr]
      simp [i4]
    | err c =>
      have hsm := same_refl (W := W) K.g.same (n + 4) (.str (Str.ofString c)) s4 rfl (Nat.zero_le _)
      obtain ⟨c10, hr⟩ := rests (W := W) (n := n + 3) K.v S4 (by omega) a0 (some (.val (.loc 0))) a2 (some (.val (.int dl.length))) (some (.val (.loc (b + 3)))) a6 (some (.val (.tup en))) (some (.val (.str (Str.ofString c)))) (some (.val (.str (Str.ofString c)))) (rng 0 dl.length) s4 a10 hmem
      refine ⟨some (.val (.str (Str.ofString c))), some (.val (.str (Str.ofString c))), c10, ?_, S4, hS4⟩
      simp [F3_rest, F3_turn, r3, r4, Ans.m, hsm, getI_ok' (i := (dl.length : Int)) (by omega) hlo]
      rw [hr]
      simp [i4]
  by_cases h5 : d2 = 5
  · obtain ⟨w', s3, r3, D3, hw'⟩ := godd (W := W) (n := n + 2) K.g.drawn K.far K.odd (by omega) S2.mod D2.1 w hw
    obtain ⟨X', s', c8, c9, c10, h1, h2, h3⟩ := rest w' s3 hw' (S2.dr D3) D3.1
    obtain ⟨en', hen'⟩ : ∃ en, w'.d = .tup en := by cases w' <;> exact ⟨_, rfl⟩
    refine ⟨X', s', some (.val w'.d), c8, c9, c10, ?_, h2, h3⟩
    rw [hen] at r1 r3
    rw [hen'] at r3 h1 ⊢
    subst h5
    rw [F3_turn_eq]
    simp [r1, r2, r3]
    exact h1
  · obtain ⟨X', s', c8, c9, c10, h1, h2, h3⟩ := rest w s2 (Job.drawn_small hw) S2 D2.1
    refine ⟨X', s', some (.val w.d), c8, c9, c10, ?_, h2, h3⟩
    rw [hen] at r1 h1 ⊢
    rw [F3_turn_eq]
    simp [r1, r2, h5]
    exact h1
theorem turns3 (K : K3 P) (a0 a2 : Option M) : ∀ (l : List D) (t : Nat) (X : Off) (s0 s : Store) (a6 a7 a8 a9 a10 : Option M), Side o dl b t X s → St ns s → t + l.length ≤ 128 → ∃ e' s', forL [] s0 (.one 6) (execs (run P W (n + 5)) W F3_turn) l [a0, some (.val (.loc 0)), a2, some (.val (.int dl.length)), some (.val (.loc o)), some (.val (.loc (b + 3))), a6, a7, a8, a9, a10] s = .ok .nx e' s'
  | [], t, X, s0, s, a6, a7, a8, a9, a10, I, hS, h => ⟨_, _, if_pos (still_nil _ _)⟩
  | x :: l, t, X, s0, s, a6, a7, a8, a9, a10, I, hS, h => by
    rw [List.length_cons] at h
    obtain ⟨X', s', c7, c8, c9, c10, h1, I', hS'⟩ := turn3 (W := W) (n := n) K I hS (by omega) a0 a2 (some (.val x)) a7 a8 a9 a10
    obtain ⟨e'', s'', h2⟩ := turns3 K a0 a2 l (t + 1) X' s0 s' (some (.val x)) c7 c8 c9 c10 I' hS' (by omega)
    refine ⟨e'', s'', ?_⟩
    rw [forL_cons, if_pos (still_nil _ _)]
    simp [h1]
    exact h2
/-- an office and its model, new -/
theorem side_new (K : KG P) (hS : St ns s) {top : Int} {k : Nat} (h0 : 0 < s.length) (h1 : 1 ≤ top) (h2 : top ≤ 400) (h3 : 1 ≤ k) (h4 : k ≤ 6) : ∃ (s1 s2 : Store), run P W (n + 2) "Office.__init__" [.loc s.length, .int top, .int k] (s ++ [⟨.ins "Office" [], 0⟩]) = .ok (.val .non) s1 ∧ s1.length = s.length + 1 + k ∧ run P W (n + 2) "_law_office" [.int top, .int k] s1 = .ok (.val (.loc (s.length + 1 + k + 3))) s2 ∧ Side s.length (dls (s.length + 1) k) (s.length + 1 + k) 0 (fresh top k) s2 ∧ St ns s2 ∧ (∀ n, n < s.length → s2[n]? = s[n]?) := by
  obtain ⟨v, r1⟩ := office_init (W := W) (n := n) K.off s h1 h2 h3 h4
  have O1 := new_off s top k v 3
  generalize e1 : s ++ ⟨.ins "Office" (offF (fresh top k) (dls (s.length + 1) k)), v⟩ :: List.replicate k ⟨.ins "Desk" (deskF freshD), 3⟩ = s1 at r1 O1
  have l1 : s1.length = s.length + 1 + k := by rw [← e1]; simp; omega
  obtain ⟨tl, htl, r2, M2⟩ := law_office (W := W) (n := n + 1) K.office s1 (top := top) (k := k) h4
  have hlow : ∀ n, n < s.length → (s1 ++ tl)[n]? = s[n]? := fun n hn => by
    rw [List.getElem?_append_left (by omega), ← e1, List.getElem?_append_left hn]
  have hkl : (fresh top k).dsk.length = k := by show (List.replicate k freshD).length = k; rw [List.length_replicate]
  rw [l1] at r2 M2
  refine ⟨s1, s1 ++ tl, r1, l1, r2, ⟨O1.app tl, M2, ⟨h2, by omega, ?_, Nat.zero_le _, Nat.zero_le _, ?_, ?_⟩, by omega, h1, h0, by omega, ?_, ?_⟩, hS.keep (hlow 0 h0), hlow⟩
  · intro x hx
    rw [List.eq_of_mem_replicate hx]; exact Nat.zero_le _
  · intro x hx i hi
    rw [List.eq_of_mem_replicate hx] at hi; cases hi
  · intro x hx hg
    rw [List.eq_of_mem_replicate hx] at hg; cases hg
  · intro d hd
    unfold dls at hd
    obtain ⟨i, hi, rfl⟩ := List.mem_map.mp hd
    rw [List.mem_range] at hi
    omega
  · rw [List.length_append, htl]; omega
theorem dls_len (a k : Nat) : (dls a k).length = k := by unfold dls; rw [List.length_map, List.length_range]
/-- a top and a count of desks drawn -/
theorem drawn_top (hl : look P "_law_drawn" = some fDrawn) (hS : St ns s) : ∃ (d1 d2 d3 top : Int) (k : Nat) (s1 s2 s3 : Store), run P W (n + 1) "_law_drawn" [.loc 0, .int 400] s = .ok (.val (.int d1)) s1 ∧ run P W (n + 1) "_law_drawn" [.loc 0, .int 3] s1 = .ok (.val (.int d2)) s2 ∧ L2.atI [D.int 20, D.int 60, D.int (1 + d1)] d2 = some (.int top) ∧ run P W (n + 1) "_law_drawn" [.loc 0, .int 6] s2 = .ok (.val (.int d3)) s3 ∧ 1 + d3 = k ∧ 1 ≤ top ∧ top ≤ 400 ∧ 1 ≤ k ∧ k ≤ 6 ∧ Dr ns s s3 := by
  obtain ⟨d1, s1, r1, p1, q1, D1⟩ := drawn_ok (P := P) (W := W) (n := n) hl (many := 400) (by omega) (by omega) hS
  obtain ⟨d2, s2, r2, p2, q2, D2⟩ := drawn_ok (P := P) (W := W) (n := n) hl (many := 3) (by omega) (by omega) D1.1
  obtain ⟨top, ⟨ht1, ht2⟩, htx⟩ : ∃ c : Int, (1 ≤ c ∧ c ≤ 400) ∧ L2.atI [D.int 20, D.int 60, D.int (1 + d1)] d2 = some (.int c) := by
    obtain ⟨v, hv, e⟩ := atI_mem (xs := [D.int 20, D.int 60, D.int (1 + d1)]) p2 (by simpa using q2)
    simp only [List.mem_cons, List.not_mem_nil, or_false] at hv
    rcases hv with rfl | rfl | rfl
    all_goals exact ⟨_, by omega, e⟩
  obtain ⟨d3, s3, r3, p3, q3, D3⟩ := drawn_ok (P := P) (W := W) (n := n) hl (many := 6) (by omega) (by omega) D2.1
  exact ⟨d1, d2, d3, top, (1 + d3).toNat, s1, s2, s3, r1, r2, htx, r3, by omega, ht1, ht2, by omega, by omega, (D1.trans D2).trans D3⟩
theorem law3_ok (K : K3 P) (hl : look P "law" = some F3_law) (ns : List Int) : ∃ s, run P W (n + 6) "law" [.scr ns] [] = .ok (.val (.bl true)) s := by
  obtain ⟨m, h0⟩ := start_ok (P := P) (W := W) (n := n + 4) (ns := ns) K.g.start
  have S0 : St ns [⟨.lst [.scr ns, .int 0, .int m, .int 0], 0⟩] := ⟨0, m, 0, 0, rfl, by omega⟩
  obtain ⟨d1, d2, d3, top, k, s1, s2, s3, r1, r2, htx, r3, hk, ht1, ht2, hk1, hk6, D3⟩ := drawn_top (P := P) (W := W) (n := n + 4) K.g.drawn S0
  have hlen : s3.length = 1 := by rw [D3.len]; rfl
  obtain ⟨s4, s5, r4, l4, r5, S5, hS5, _⟩ := side_new (W := W) (n := n + 3) K.g D3.1 (by omega) ht1 ht2 hk1 hk6
  obtain ⟨d6, s6, r6, p6, q6, D6⟩ := drawn_ok (P := P) (W := W) (n := n + 4) K.g.drawn (many := 41) (by omega) (by omega) hS5
  have S6 := S5.dr D6
  obtain ⟨e', s', r7⟩ := turns3 (W := W) (n := n) K (some (.val (.scr ns))) (some (.val (.int top))) (rng 0 d6) 0 (fresh top k) s6 s6 none none none none none S6 D6.1 (by rw [rng_len]; omega)
  rw [dls_len] at r7
  rw [hlen] at r4 r5 r7
  rw [run_eq hl rfl (by decide)]
  apply Exists.intro
  simp [F3_law, begun, h0, r1, r2, htx, r3, hk, hlen, r4, r5, r6, getI_ok' (i := d6) (by omega) (by omega)]
  rw [r7]
  simp
  rfl
end
end OI.Y

/-! OG7: the state of a number, and the gaps. -/
namespace OI.Y
open PySem (Str)
def F_state_in : Fn := ⟨2, 4, (.cons (.ifs (.cmp .isin (.var 1) (.attr (.var 0) "words")) (.cons (.ret (.idx (.attr (.var 0) "words") (.var 1)))
  .nil) .nil)
  (.cons (.asg (.one 2) (.meth (.var 0) "Office" "holder" (.cons (.var 1) .nil)))
  (.cons (.ifs (.isN false (.var 2)) (.cons (.ret (.cst (.str "free")))
  .nil) .nil)
  (.cons (.asg (.one 3) (.idx (.attr (.var 0) "desks") (.var 2)))
  (.cons (.ifs (.attr (.var 3) "goes") (.cons (.ret (.cst (.str "open")))
  .nil) .nil)
  (.cons (.ifs (.cmp .isin (.var 1) (.attr (.var 0) "seen")) (.cons (.ret (.cst (.str "paper")))
  .nil) .nil)
  (.cons (.ret (.ife (.cmp .lt (.bm1 "index" (.attr (.var 3) "lying") (.var 1)) (.attr (.var 3) "low")) (.cst (.str "used")) (.cst (.str "rest"))))
  .nil)))))))⟩
def F_state_of : Fn := ⟨2, 2, (.cons (.expr (.meth (.var 0) "Office" "need_number" (.cons (.var 1) .nil)))
  (.cons (.ret (.call "state_in" (.cons (.var 0) (.cons (.var 1) .nil))))
  .nil))⟩
def F_gaps : Fn := ⟨1, 6, (.cons (.asg (.one 1) (.lc (.tup (.cons (.var 2) (.cons (.call "state_in" (.cons (.var 0) (.cons (.var 2) .nil))) .nil))) (.one 2) (.rng2 (.cst (.int 1)) (.bin .add (.attr (.var 0) "top") (.cst (.int 1)))) .no [2]))
  (.cons (.asg (.one 3) (.bi2 "maxd" (.lc (.var 2) (.many [2, 4]) (.of (.var 1)) (.yes (.cmp .isin (.var 4) (.tup (.cons (.cst (.str "paper")) (.cons (.cst (.str "spoilt")) (.cons (.cst (.str "used")) .nil)))))) [2, 4]) (.cst (.int 0))))
  (.cons (.asg (.one 5) (.lst .nil))
  (.cons (.fors (.many [2, 4]) (.of (.slc (.var 1) .no (.yes (.bi2 "max" (.cst (.int 0)) (.bin .sub (.var 3) (.cst (.int 1))))))) (.cons (.ifs (.cmp .ne (.var 4) (.cst (.str "paper"))) (.cons (.mut1 "append" (.var 5) (.tup (.cons (.var 2) (.cons (.var 4) (.cons (.meth (.var 0) "Office" "holder" (.cons (.var 2) .nil)) .nil)))))
  .nil) .nil)
  .nil))
  (.cons (.ret (.var 5))
  .nil)))))⟩
def F_law_state : Fn := ⟨2, 3, (.cons (.ifs (.cmp .isin (.var 1) (.idx (.var 0) (.cst (.str "words")))) (.cons (.ret (.idx (.idx (.var 0) (.cst (.str "words"))) (.var 1)))
  .nil) .nil)
  (.cons (.asg (.one 2) (.call "_law_holder" (.cons (.var 0) (.cons (.var 1) .nil))))
  (.cons (.ifs (.isN false (.var 2)) (.cons (.ret (.cst (.str "free")))
  .nil) .nil)
  (.cons (.ifs (.idx (.idx (.var 0) (.cst (.str "goes"))) (.var 2)) (.cons (.ret (.cst (.str "open")))
  .nil) .nil)
  (.cons (.ifs (.cmp .isin (.var 1) (.idx (.var 0) (.cst (.str "seen")))) (.cons (.ret (.cst (.str "paper")))
  .nil) .nil)
  (.cons (.ret (.idx (.lst (.cons (.cst (.str "rest")) (.cons (.cst (.str "used")) .nil))) (.bi1 "int" (.cmp .lt (.bm1 "index" (.idx (.idx (.var 0) (.cst (.str "lying"))) (.var 2)) (.var 1)) (.idx (.idx (.var 0) (.cst (.str "low"))) (.var 2))))))
  .nil))))))⟩

/-- the state of a number -/
def stW (X : Off) (n : Int) : Str := match wget X.words n with
  | some w => w
  | none => match X.holder n with
    | none => "free"
    | some j => match X.dsk[j]? with
      | none => "free"
      | some k => if k.goes = true then "open" else if n ∈ X.seen then "paper" else if (idxI n k.lying : Int) < k.low.getD 0 then "used" else "rest"
section
variable {P : Prog} {W n : Nat} {s : Store} {o b : Nat} {dl : List Nat} {X : Off}
theorem state_in_ok (p : OfB P) (hl : look P "state_in" = some F_state_in) (A : OffAt o dl X s) {t : Nat} (F : Fit t X) (num : Int) : run P W (n + 2) "state_in" [.loc o, .int num] s = .ok (.val (.str (stW X num))) s := by
  obtain ⟨v, hv⟩ := A.off
  have hz : X.dsk.length ≤ LIM := Nat.le_trans F.n6 (by decide)
  have h2 := holder_ok (W := W) (n := n) p.holder A hz num
  rw [run_eq hl rfl (by decide)]
  unfold stW
  cases hw : wget X.words num with
  | some w => simp [F_state_in, begun, hv, offF, hw, gc_self]
  | none =>
    cases hh : X.holder num with
    | none =>
      rw [hh] at h2
      simp [F_state_in, begun, hv, offF, hw, h2, optI, gc_self]
    | some j =>
      rw [hh] at h2
      obtain ⟨k, _, hk, hm⟩ := holdG_some hh
      rw [Nat.sub_zero] at hk
      obtain ⟨d, w, hj, hd, hx⟩ := A.at_ hk
      cases hg : k.goes with
      | true => simp [F_state_in, begun, hv, offF, hw, h2, optI, hx, hd, deskF, hk, hg, gc_self]
      | false =>
        have hkm := List.mem_of_getElem? hk
        obtain ⟨i, hi⟩ : ∃ i, k.low = some i := by
          cases hlo : k.low with
          | none => exact absurd hlo (F.held k hkm hg (fun z => by rw [z] at hm; cases hm))
          | some i => exact ⟨i, rfl⟩
        by_cases c2 : num ∈ X.seen
        · simp [F_state_in, begun, hv, offF, hw, h2, optI, hx, hd, deskF, hk, hg, c2, gc_self]
        · by_cases c3 : (idxI num k.lying : Int) < i
          · simp [F_state_in, begun, hv, offF, hw, h2, optI, hx, hd, deskF, hk, hg, c2, hi, lowD_some, index_ints hm, c3, gc_self]
          · simp [F_state_in, begun, hv, offF, hw, h2, optI, hx, hd, deskF, hk, hg, c2, hi, lowD_some, index_ints hm, c3, gc_self]
theorem state_of_ok (p : OfB P) (hn : look P "Office.need_number" = some F_Office_need_number) (hl : look P "state_in" = some F_state_in) (hl2 : look P "state_of" = some F_state_of) (A : OffAt o dl X s) {t : Nat} (F : Fit t X) {num : Int} (h1 : 1 ≤ num) (h2 : num ≤ X.top) : run P W (n + 3) "state_of" [.loc o, .int num] s = .ok (.val (.str (stW X num))) s := by
  obtain ⟨v, hv⟩ := A.off
  have h3 := need_ok (W := W) (n := n + 1) hn A num
  rw [if_pos ⟨h1, h2⟩] at h3
  have h4 := state_in_ok (W := W) (n := n) p hl A F num
  rw [run_eq hl2 rfl (by decide)]
  simp [F_state_of, begun, hv, offF, h3, h4, gc_self]
theorem mstate_ok (hh : look P "_law_holder" = some F_law_holder) (hl : look P "_law_state" = some F_law_state) (A : ModAt b X s) {t : Nat} (F : Fit t X) (num : Int) : run P W (n + 2) "_law_state" [.loc (b + 3), .int num] s = .ok (.val (.str (stW X num))) s := by
  obtain ⟨vs, hse⟩ := A.se
  obtain ⟨vw, hwd⟩ := A.w
  obtain ⟨vl, hly⟩ := A.ly
  obtain ⟨vd, hdi⟩ := A.di
  obtain ⟨vg, hgo⟩ := A.go
  obtain ⟨vo, hlo⟩ := A.lo
  have hz : X.dsk.length ≤ LIM := Nat.le_trans F.n6 (by decide)
  have h2 := mholder_ok (W := W) (n := n) hh A hz num
  rw [run_eq hl rfl (by decide)]
  unfold stW
  cases hw : wget X.words num with
  | some w => simp [F_law_state, begun, hdi, hwd, hw, gc_self]
  | none =>
    cases hh : X.holder num with
    | none =>
      rw [hh] at h2
      simp [F_law_state, begun, hdi, hwd, hw, h2, optI, gc_self]
    | some j =>
      rw [hh] at h2
      obtain ⟨k, _, hk, hm⟩ := holdG_some hh
      rw [Nat.sub_zero] at hk
      have hga := go_at hk
      have hlo1 := lo_at hk
      cases hg : k.goes with
      | true =>
        rw [hg] at hga
        simp [F_law_state, begun, hdi, hwd, hgo, hga, hw, h2, optI, hk, hg, gc_self]
      | false =>
        rw [hg] at hga
        have hkm := List.mem_of_getElem? hk
        obtain ⟨i, hi⟩ : ∃ i, k.low = some i := by
          cases hlo : k.low with
          | none => exact absurd hlo (F.held k hkm hg (fun z => by rw [z] at hm; cases hm))
          | some i => exact ⟨i, rfl⟩
        rw [hi, lowD_some] at hlo1
        by_cases c2 : num ∈ X.seen
        · simp [F_law_state, begun, hdi, hwd, hse, hgo, hga, hw, h2, optI, hk, hg, c2, gc_self]
        · by_cases c3 : (idxI num k.lying : Int) < i
          · simp [F_law_state, begun, hdi, hwd, hse, hgo, hly, hlo, hga, ly_at hk, hlo1, hw, h2, optI, hk, hg, c2, hi, index_ints' hm, c3, gc_self]
          · simp [F_law_state, begun, hdi, hwd, hse, hgo, hly, hlo, hga, ly_at hk, hlo1, hw, h2, optI, hk, hg, c2, hi, index_ints' hm, c3, gc_self]
/-! gaps -/
def stT (X : Off) (n : Int) : D := .tup [.int n, .str (stW X n)]
def usedL : List Str := ["paper", "spoilt", "used"]
def isUsed (X : Off) (n : Int) : Bool := decide (stW X n ∈ usedL)
def maxD : List Int → Int
  | [] => 0
  | n :: r => maxI (n :: r)
def greatest (X : Off) : Int := maxD ((rgI 1 (X.top + 1)).filter (isUsed X))
def gapT (X : Off) (n : Int) : D := .tup [.int n, .str (stW X n), optI (X.holder n)]
def gapQ (X : Off) (n : Int) : Bool := !decide (stW X n = ("paper" : Str))
def gapsL (X : Off) : List D := (((rgI 1 (X.top + 1)).take (max 0 (greatest X - 1)).toNat).filter (gapQ X)).map (gapT X)
theorem maxd_ints (ns : List Int) : bi2 "maxd" (.ol (ns.map .int)) (.val (.int 0)) = some (.val (.int (maxD ns))) := by
  have h : (M.lst? (.ol (ns.map D.int))).bind ints? = some ns := ints_map ns
  unfold bi2
  simp only [h]
  cases ns <;> rfl
theorem gaps_loop (p : OfB P) (A : OffAt o dl X s) (hz : X.dsk.length ≤ LIM) (a1 a3 : Option M) : ∀ (l : List Int) (s0 : Store) (acc : List D) (o2 o4 : Option M), acc.length + l.length ≤ LIM → ∃ o2' o4', forL [] s0 (.many [2, 4]) (execs (run P W (n + 1)) W (.cons (.ifs (.cmp .ne (.var 4) (.cst (.str "paper"))) (.cons (.mut1 "append" (.var 5) (.tup (.cons (.var 2) (.cons (.var 4) (.cons (.meth (.var 0) "Office" "holder" (.cons (.var 2) .nil)) .nil)))))
  .nil) .nil)
  .nil)) (l.map (stT X)) [some (.val (.loc o)), a1, o2, a3, o4, some (.ol acc)] s = .ok .nx [some (.val (.loc o)), a1, o2', a3, o4', some (.ol (acc ++ (l.filter (gapQ X)).map (gapT X)))] s
  | [], s0, acc, o2, o4, h => ⟨o2, o4, by
      rw [show acc ++ (([] : List Int).filter (gapQ X)).map (gapT X) = acc from List.append_nil _]
      exact if_pos (still_nil _ _)⟩
  | m :: l, s0, acc, o2, o4, h => by
    obtain ⟨v, hv⟩ := A.off
    rw [List.length_cons] at h
    have hh := holder_ok (W := W) (n := n) p.holder A hz m
    have hl : acc.length < LIM := by omega
    by_cases hq : stW X m = ("paper" : Str)
    · obtain ⟨q2, q4, ih⟩ := gaps_loop p A hz a1 a3 l s0 acc (some (.val (.int m))) (some (.val (.str (stW X m)))) (by omega)
      refine ⟨q2, q4, ?_⟩
      rw [List.map_cons, forL_cons, if_pos (still_nil _ _), List.filter_cons, if_neg (by simp [gapQ, hq])]
      rw [hq] at ih
      simp [stT, hq]
      exact ih
    · obtain ⟨q2, q4, ih⟩ := gaps_loop p A hz a1 a3 l s0 (acc ++ [gapT X m]) (some (.val (.int m))) (some (.val (.str (stW X m)))) (by rw [List.length_append, List.length_singleton]; omega)
      refine ⟨q2, q4, ?_⟩
      rw [List.map_cons, forL_cons, if_pos (still_nil _ _), List.filter_cons, if_pos (by simp [gapQ, hq])]
      have hh' : run P W (n + 1) "Office.holder" [.loc o, .int m] s = .ok (.val (optI (X.holder m))) s := hh
      simp [stT, hq, hv, offF, hh', hl]
      rw [List.append_assoc] at ih
      exact ih
theorem gaps_ok (p : OfB P) (hl : look P "state_in" = some F_state_in) (hl2 : look P "gaps" = some F_gaps) (A : OffAt o dl X s) {t : Nat} (F : Fit t X) : run P W (n + 3) "gaps" [.loc o] s = .ok (.ol (gapsL X)) s := by
  obtain ⟨v, hv⟩ := A.off
  have htp := F.top
  have hz : X.dsk.length ≤ LIM := Nat.le_trans F.n6 (by decide)
  have hL : 1000 ≤ LIM := by decide
  have hlen : (rgI 1 (X.top + 1)).length ≤ 400 := by rw [rgI_len]; omega
  have h1 : ∀ R : Runs, R = run P W (n + 2) → lcL [] s [2] (.one 2) (evc R .no) (valD (ev R (.tup (.cons (.var 2) (.cons (.call "state_in" (.cons (.var 0) (.cons (.var 2) .nil))) .nil))))) ((rgI 1 (X.top + 1)).map .int) [] [some (.val (.loc o)), none, none, none, none, none] s = .ok ((rgI 1 (X.top + 1)).map (stT X)) [some (.val (.loc o)), none, none, none, none, none] s := fun R hR => by
    subst hR
    rw [lc_all (test := evc (run P W (n + 2)) .no) (g := fun d => match d with | .int m => stT X m | d => d) (by simp) [] fun x hx => ?_, List.nil_append, List.map_map]
    · rfl
    obtain ⟨m, hm, rfl⟩ := List.mem_map.mp hx
    have hs := state_in_ok (W := W) (n := n) p hl A F m
    refine ⟨[some (.val (.loc o)), none, some (.val (.int m)), none, none, none], [some (.val (.loc o)), none, some (.val (.int m)), none, none, none], [some (.val (.loc o)), none, some (.val (.int m)), none, none, none], rfl, rfl, ?_, rfl⟩
    simp [hs, stT]
  have h2 : ∀ R : Runs, lcL [.slot 1] s [2, 4] (.many [2, 4]) (evc R (.yes (.cmp .isin (.var 4) (.tup (.cons (.cst (.str "paper")) (.cons (.cst (.str "spoilt")) (.cons (.cst (.str "used")) .nil))))))) (valD (ev R (.var 2))) ((rgI 1 (X.top + 1)).map (stT X)) [] [some (.val (.loc o)), some (.ol ((rgI 1 (X.top + 1)).map (stT X))), none, none, none, none] s = .ok (((rgI 1 (X.top + 1)).filter (isUsed X)).map .int) [some (.val (.loc o)), some (.ol ((rgI 1 (X.top + 1)).map (stT X))), none, none, none, none] s := fun R => by
    rw [lc_filter (p := fun d => match d with | .tup (.int m :: _) => isUsed X m | _ => false) (g := fun d => match d with | .tup (x :: _) => x | d => d) (by simp) [] fun x hx => ?_, List.nil_append, List.filter_map, List.map_map]
    · rfl
    obtain ⟨m, hm, rfl⟩ := List.mem_map.mp hx
    have hn : cmp .isin (.val (.str (stW X m))) (.val (.tup [.str "paper", .str "spoilt", .str "used"])) = some (isUsed X m) := isin_strT (stW X m) usedL
    refine ⟨_, [some (.val (.loc o)), some (.ol ((rgI 1 (X.top + 1)).map (stT X))), some (.val (.int m)), none, some (.val (.str (stW X m))), none], rfl, ?_, ?_⟩
    · simp [hn, stT]
    · show if isUsed X m = true then _ else _
      split
      · exact ⟨[some (.val (.loc o)), some (.ol ((rgI 1 (X.top + 1)).map (stT X))), some (.val (.int m)), none, some (.val (.str (stW X m))), none], by simp [stT], by simp [wipe]⟩
      · simp [wipe]
  obtain ⟨c, hc⟩ : ∃ c : Nat, max 0 (greatest X - 1) = (c : Int) := ⟨(max 0 (greatest X - 1)).toNat, by omega⟩
  obtain ⟨q2, q4, h3⟩ := gaps_loop (W := W) (n := n + 1) p A hz (some (.ol ((rgI 1 (X.top + 1)).map (stT X)))) (some (.val (.int (greatest X)))) ((rgI 1 (X.top + 1)).take c) s [] none none (by rw [List.length_take, List.length_nil]; omega)
  rw [run_eq hl2 rfl (by decide)]
  have hlr : (rgI 1 (X.top + 1)).length ≤ LIM := by omega
  simp [F_gaps, begun, hv, offF, rng_rgI, lcK, wipeOk, hlr, wipe]
  rw [h1 _ rfl]
  simp [lcEnd, back, lcK, wipeOk, hlr, wipe]
  rw [h2]
  rw [List.map_take] at h3
  have hg : maxD ((rgI 1 (X.top + 1)).filter (isUsed X)) = greatest X := rfl
  simp [lcEnd, back, maxd_ints, hg, hc, cut_take]
  rw [h3]
  simp [gc_self, gapsL, hc]
end
end OI.Y

/-! OG8: the gaps, as the laws' model counts them. -/
namespace OI.Y
open PySem (Str)
def F_law_gaps : Fn := ⟨1, 5, (.cons (.asg (.one 1) (.cst (.int 0)))
  (.cons (.asg (.one 2) (.lst .nil))
  (.cons (.fors (.one 3) (.rng3 (.idx (.var 0) (.cst (.str "top"))) (.cst (.int 0)) (.bin .sub (.cst (.int 0)) (.cst (.int 1)))) (.cons (.asg (.one 4) (.call "_law_state" (.cons (.var 0) (.cons (.var 3) .nil))))
  (.cons (.ifs (.cmp .isin (.var 4) (.lst (.cons (.cst (.str "paper")) (.cons (.cst (.str "spoilt")) (.cons (.cst (.str "used")) .nil))))) (.cons (.asg (.one 1) (.bi2 "max" (.var 1) (.var 3)))
  .nil) .nil)
  (.cons (.ifs (.both (.cmp .lt (.var 3) (.var 1)) (.cmp .ne (.var 4) (.cst (.str "paper")))) (.cons (.mut1 "append" (.var 2) (.tup (.cons (.var 3) (.cons (.var 4) (.cons (.call "_law_holder" (.cons (.var 0) (.cons (.var 3) .nil))) .nil)))))
  .nil) .nil)
  .nil))))
  (.cons (.mut0 "reverse" (.var 2))
  (.cons (.ret (.var 2))
  .nil)))))⟩

/-- the gaps from k downwards, g the greatest used so far -/
def down (X : Off) : Nat → Int → List D
  | 0, _ => []
  | k + 1, g => (if ((k : Int) + 1 < (if isUsed X (k + 1) = true then max g (k + 1) else g)) ∧ gapQ X (k + 1) = true then [gapT X (k + 1)] else []) ++ down X k (if isUsed X (k + 1) = true then max g (k + 1) else g)
theorem rgI_snoc {j : Int} (h : 1 ≤ j) : rgI 1 (j + 1) = rgI 1 j ++ [j] := by
  unfold rgI
  rw [show (j + 1 - 1).toNat = (j - 1).toNat + 1 by omega, List.range_succ, List.map_append]
  congr 1
  show [1 + (((j - 1).toNat : Nat) : Int)] = [j]
  congr 1
  omega
theorem down_all (X : Off) : ∀ (k : Nat) (g : Int), (k : Int) < g → (down X k g).reverse = ((rgI 1 ((k : Int) + 1)).filter (gapQ X)).map (gapT X)
  | 0, g, h => by rw [rgI_nil (by omega)]; rfl
  | k + 1, g, h => by
    have hg : (if isUsed X ((k : Int) + 1) = true then max g ((k : Int) + 1) else g) = g := by
      split
      · push_cast at h; omega
      · rfl
    have ih := down_all X k g (by omega)
    unfold down
    rw [hg, List.reverse_append, ih]
    push_cast
    rw [rgI_snoc (show (1 : Int) ≤ (k : Int) + 1 by omega), List.filter_append, List.map_append]
    congr 1
    push_cast at h
    cases hq : gapQ X ((k : Int) + 1) with
    | true => simp [h, hq]
    | false => simp [hq]
theorem maxI_spec : ∀ (a : Int) (l : List Int), maxI (a :: l) ∈ a :: l ∧ ∀ x ∈ a :: l, x ≤ maxI (a :: l)
  | a, [] => ⟨List.mem_cons_self .., fun x hx => by rw [List.mem_singleton.mp hx]; exact Int.le_refl _⟩
  | a, b :: l => by
    obtain ⟨h1, h2⟩ := maxI_spec b l
    have e : maxI (a :: b :: l) = max a (maxI (b :: l)) := rfl
    rw [e]
    refine ⟨?_, fun x hx => ?_⟩
    · rcases Int.le_total a (maxI (b :: l)) with z | z
      · rw [Int.max_eq_right z]; exact List.mem_cons_of_mem _ h1
      · rw [Int.max_eq_left z]; exact List.mem_cons_self ..
    · cases hx with
      | head => exact Int.le_max_left _ _
      | tail _ hx => exact Int.le_trans (h2 x hx) (Int.le_max_right _ _)
theorem maxD_eq {l : List Int} {G : Int} (h1 : G ∈ l) (h2 : ∀ x ∈ l, x ≤ G) : maxD l = G := by
  cases l with
  | nil => cases h1
  | cons a r =>
    obtain ⟨g1, g2⟩ := maxI_spec a r
    exact Int.le_antisymm (h2 _ g1) (g2 _ h1)
/-- from k downwards, nothing above used -/
theorem down_zero (X : Off) : ∀ (k : Nat), ((∀ m : Int, 1 ≤ m → m ≤ k → isUsed X m = false) ∧ down X k 0 = []) ∨ ∃ G : Int, 1 ≤ G ∧ G ≤ k ∧ isUsed X G = true ∧ (∀ m : Int, G < m → m ≤ k → isUsed X m = false) ∧ (down X k 0).reverse = ((rgI 1 G).filter (gapQ X)).map (gapT X)
  | 0 => .inl ⟨fun m h1 h2 => by omega, rfl⟩
  | k + 1 => by
    cases hu : isUsed X ((k : Int) + 1) with
    | true =>
      refine .inr ⟨(k : Int) + 1, by omega, by push_cast; omega, hu, fun m h1 h2 => by push_cast at h2; omega, ?_⟩
      unfold down
      rw [hu, if_pos rfl, Int.max_eq_right (by omega), if_neg (by omega), List.nil_append]
      exact down_all X k _ (by omega)
    | false =>
      have hd : down X (k + 1) 0 = down X k 0 := by
        show (if ((k : Int) + 1 < (if isUsed X ((k : Int) + 1) = true then max (0 : Int) ((k : Int) + 1) else (0 : Int))) ∧ gapQ X ((k : Int) + 1) = true then [gapT X ((k : Int) + 1)] else []) ++ down X k (if isUsed X ((k : Int) + 1) = true then max (0 : Int) ((k : Int) + 1) else (0 : Int)) = _
        rw [hu, if_neg (show ¬ (false = true) by simp), if_neg (by omega), List.nil_append]
      rw [hd]
      rcases down_zero X k with ⟨h1, h2⟩ | ⟨G, h1, h2, h3, h4, h5⟩
      · refine .inl ⟨fun m g1 g2 => ?_, h2⟩
        push_cast at g2
        by_cases z : m = (k : Int) + 1
        · rw [z]; exact hu
        · exact h1 m g1 (by omega)
      · refine .inr ⟨G, h1, by push_cast; omega, h3, fun m g1 g2 => ?_, h5⟩
        push_cast at g2
        by_cases z : m = (k : Int) + 1
        · rw [z]; exact hu
        · exact h4 m g1 (by omega)
theorem rgI_take {T G : Int} (h1 : 1 ≤ G) (h2 : G ≤ T) : (rgI 1 (T + 1)).take (G - 1).toNat = rgI 1 G := by
  unfold rgI
  rw [← List.map_take, List.take_range]
  congr 2
  omega
theorem down_gaps (X : Off) : (down X X.top.toNat 0).reverse = gapsL X := by
  unfold gapsL
  rcases down_zero X X.top.toNat with ⟨h1, h2⟩ | ⟨G, h1, h2, h3, h4, h5⟩
  · have hg : greatest X = 0 := by
      unfold greatest
      rw [List.filter_eq_nil_iff.mpr (fun m hm => by
        obtain ⟨g1, g2⟩ := rgI_mem.mp hm
        rw [h1 m g1 (by omega)]
        simp)]
      rfl
    rw [h2, hg]
    rfl
  · have hg : greatest X = G := maxD_eq (List.mem_filter.mpr ⟨rgI_mem.mpr ⟨h1, by omega⟩, h3⟩) fun x hx => by
      obtain ⟨hx1, hx2⟩ := List.mem_filter.mp hx
      obtain ⟨g1, g2⟩ := rgI_mem.mp hx1
      by_cases z : G < x
      · rw [h4 x z (by omega)] at hx2; cases hx2
      · omega
    rw [h5, hg, Int.max_eq_right (by omega), rgI_take h1 (by omega)]
theorem rngDown_nil {i : Int} (h : i ≤ 0) : rngDown i 0 = [] := by
  unfold rngDown
  rw [show (i - 0).toNat = 0 by omega]
  rfl
theorem rngDown_cons (k : Nat) : rngDown ((k : Int) + 1) 0 = .int ((k : Int) + 1) :: rngDown k 0 := by
  unfold rngDown
  rw [show ((k : Int) + 1 - 0).toNat = ((k : Int) - 0).toNat + 1 by omega, List.range_succ_eq_map, List.map_cons, List.map_map]
  congr 1
  apply List.map_congr_left
  intro i _
  simp
  omega
section
variable {P : Prog} {W n : Nat} {s : Store} {o b : Nat} {dl : List Nat} {X : Off}
theorem evi_rng3 {R : Runs} {e : Env} (a b c : IE) : evi R (.rng3 a b c) e s = three (ev R a) (ev R b) (ev R c) rng3K e s := rfl
theorem mgaps_loop (hh : look P "_law_holder" = some F_law_holder) (hs : look P "_law_state" = some F_law_state) (A : ModAt b X s) {t : Nat} (F : Fit t X) : ∀ (k : Nat) (g : Int) (s0 : Store) (acc : List D) (o3 o4 : Option M), acc.length + k ≤ LIM → ∃ g' o3' o4', forL [] s0 (.one 3) (execs (run P W (n + 2)) W (.cons (.asg (.one 4) (.call "_law_state" (.cons (.var 0) (.cons (.var 3) .nil))))
  (.cons (.ifs (.cmp .isin (.var 4) (.lst (.cons (.cst (.str "paper")) (.cons (.cst (.str "spoilt")) (.cons (.cst (.str "used")) .nil))))) (.cons (.asg (.one 1) (.bi2 "max" (.var 1) (.var 3)))
  .nil) .nil)
  (.cons (.ifs (.both (.cmp .lt (.var 3) (.var 1)) (.cmp .ne (.var 4) (.cst (.str "paper")))) (.cons (.mut1 "append" (.var 2) (.tup (.cons (.var 3) (.cons (.var 4) (.cons (.call "_law_holder" (.cons (.var 0) (.cons (.var 3) .nil))) .nil)))))
  .nil) .nil)
  .nil)))) (rngDown k 0) [some (.val (.loc (b + 3))), some (.val (.int g)), some (.ol acc), o3, o4] s = .ok .nx [some (.val (.loc (b + 3))), some (.val (.int g')), some (.ol (acc ++ down X k g)), o3', o4'] s
  | 0, g, s0, acc, o3, o4, h => ⟨g, o3, o4, by
      rw [rngDown_nil (by omega), show acc ++ down X 0 g = acc from List.append_nil _]
      exact if_pos (still_nil _ _)⟩
  | k + 1, g, s0, acc, o3, o4, h => by
    have hz : X.dsk.length ≤ LIM := Nat.le_trans F.n6 (by decide)
    have h1 := mstate_ok (W := W) (n := n) hh hs A F ((k : Int) + 1)
    have h2 := mholder_ok (W := W) (n := n + 1) hh A hz ((k : Int) + 1)
    have hu : cmp .isin (.val (.str (stW X ((k : Int) + 1)))) (.ol [.str "paper", .str "spoilt", .str "used"]) = some (isUsed X ((k : Int) + 1)) := isin_strL (stW X ((k : Int) + 1)) usedL
    have hl : acc.length < LIM := by omega
    push_cast
    rw [rngDown_cons, forL_cons, if_pos (still_nil _ _)]
    cases hus : isUsed X ((k : Int) + 1) with
    | true =>
      rw [hus] at hu
      by_cases c1 : (k : Int) + 1 < max g ((k : Int) + 1)
      · by_cases c2 : stW X ((k : Int) + 1) = ("paper" : Str)
        · obtain ⟨g', q3, q4, ih⟩ := mgaps_loop hh hs A F k (max g ((k : Int) + 1)) s0 acc (some (.val (.int ((k : Int) + 1)))) (some (.val (.str (stW X ((k : Int) + 1))))) (by omega)
          refine ⟨g', q3, q4, ?_⟩
          have hd : down X (k + 1) g = down X k (max g ((k : Int) + 1)) := by simp [down, hus, gapQ, c2]
          rw [hd, ← ih]
          rw [c2] at h1 hu ⊢
          simp [h1, hu, c1]
        · obtain ⟨g', q3, q4, ih⟩ := mgaps_loop hh hs A F k (max g ((k : Int) + 1)) s0 (acc ++ [gapT X ((k : Int) + 1)]) (some (.val (.int ((k : Int) + 1)))) (some (.val (.str (stW X ((k : Int) + 1))))) (by rw [List.length_append, List.length_singleton]; omega)
          refine ⟨g', q3, q4, ?_⟩
          have hd : down X (k + 1) g = gapT X ((k : Int) + 1) :: down X k (max g ((k : Int) + 1)) := by simp [down, hus, gapQ, c2, c1]
          rw [List.append_assoc, List.singleton_append] at ih
          rw [hd, ← ih]
          simp [h1, hu, c1, c2, h2, hl, gapT]
      · obtain ⟨g', q3, q4, ih⟩ := mgaps_loop hh hs A F k (max g ((k : Int) + 1)) s0 acc (some (.val (.int ((k : Int) + 1)))) (some (.val (.str (stW X ((k : Int) + 1))))) (by omega)
        refine ⟨g', q3, q4, ?_⟩
        have hd : down X (k + 1) g = down X k (max g ((k : Int) + 1)) := by simp [down, hus, c1]
        rw [hd, ← ih]
        simp [h1, hu, c1]
    | false =>
      rw [hus] at hu
      by_cases c1 : (k : Int) + 1 < g
      · by_cases c2 : stW X ((k : Int) + 1) = ("paper" : Str)
        · obtain ⟨g', q3, q4, ih⟩ := mgaps_loop hh hs A F k g s0 acc (some (.val (.int ((k : Int) + 1)))) (some (.val (.str (stW X ((k : Int) + 1))))) (by omega)
          refine ⟨g', q3, q4, ?_⟩
          have hd : down X (k + 1) g = down X k g := by simp [down, hus, gapQ, c2]
          rw [hd, ← ih]
          rw [c2] at h1 hu ⊢
          simp [h1, hu, c1]
        · obtain ⟨g', q3, q4, ih⟩ := mgaps_loop hh hs A F k g s0 (acc ++ [gapT X ((k : Int) + 1)]) (some (.val (.int ((k : Int) + 1)))) (some (.val (.str (stW X ((k : Int) + 1))))) (by rw [List.length_append, List.length_singleton]; omega)
          refine ⟨g', q3, q4, ?_⟩
          have hd : down X (k + 1) g = gapT X ((k : Int) + 1) :: down X k g := by simp [down, hus, gapQ, c2, c1]
          rw [List.append_assoc, List.singleton_append] at ih
          rw [hd, ← ih]
          simp [h1, hu, c1, c2, h2, hl, gapT]
      · obtain ⟨g', q3, q4, ih⟩ := mgaps_loop hh hs A F k g s0 acc (some (.val (.int ((k : Int) + 1)))) (some (.val (.str (stW X ((k : Int) + 1))))) (by omega)
        refine ⟨g', q3, q4, ?_⟩
        have hd : down X (k + 1) g = down X k g := by simp [down, hus, c1]
        rw [hd, ← ih]
        simp [h1, hu, c1]
theorem mgaps_ok (hh : look P "_law_holder" = some F_law_holder) (hs : look P "_law_state" = some F_law_state) (hl : look P "_law_gaps" = some F_law_gaps) (A : ModAt b X s) {t : Nat} (F : Fit t X) (h0 : 0 ≤ X.top) : run P W (n + 3) "_law_gaps" [.loc (b + 3)] s = .ok (.ol (gapsL X)) s := by
  obtain ⟨vd, hdi⟩ := A.di
  have htp := F.top
  have hL : 1000 ≤ LIM := by decide
  obtain ⟨g', q3, q4, h⟩ := mgaps_loop (W := W) (n := n) hh hs A F X.top.toNat 0 s [] none none (by rw [List.length_nil]; omega)
  rw [Int.toNat_of_nonneg h0, List.nil_append] at h
  rw [run_eq hl rfl (by decide)]
  simp [F_law_gaps, begun, evi_rng3, three, hdi, rng3K, getI_ok' (i := X.top) (by omega) (by omega), getI_ok' (i := 0) (by omega) (by omega), getI_ok' (i := -1) (by omega) (by omega)]
  rw [h]
  simp [down_gaps, gc_self]
end
end OI.Y

/-! OG9: k04: the law. -/
namespace OI.Y
open PySem (Str)
def F4_made : ISs := (.cons (.asg (.one 8) (.call "_law_deed" (.cons (.var 0) (.cons (.var 6) (.cons (.var 1) .nil)))))
  (.cons (.ifs (.nott (.call "_law_same" (.cons (.call "_law_told" (.cons (.var 5) (.cons (.var 8) .nil))) (.cons (.call "_law_due" (.cons (.var 6) (.cons (.var 8) .nil))) .nil)))) (.cons (.ret (.cst .non))
  .nil) .nil)
  .nil))
def F4_law_made : Fn := ⟨3, 9, (.cons (.asg (.one 3) (.idx (.lst (.cons (.cst (.int 20)) (.cons (.cst (.int 60)) (.cons (.bin .add (.cst (.int 1)) (.call "_law_drawn" (.cons (.var 0) (.cons (.cst (.int 400)) .nil)))) .nil)))) (.call "_law_drawn" (.cons (.var 0) (.cons (.cst (.int 3)) .nil)))))
  (.cons (.asg (.one 4) (.bin .add (.cst (.int 1)) (.call "_law_drawn" (.cons (.var 0) (.cons (.cst (.int 6)) .nil)))))
  (.cons (.asg (.one 5) (.new "Office" (.cons (.var 3) (.cons (.var 4) .nil))))
  (.cons (.asg (.one 6) (.call "_law_office" (.cons (.var 3) (.cons (.var 4) .nil))))
  (.cons (.fors (.one 7) (.rng1 (.call "_law_drawn" (.cons (.var 0) (.cons (.bin .add (.var 2) (.cst (.int 1))) .nil)))) F4_made)
  (.cons (.ret (.tup (.cons (.var 5) (.cons (.var 6) .nil))))
  .nil))))))⟩
def F4_st : ISs := (.cons (.ifs (.nott (.call "_law_same" (.cons (.call "state_of" (.cons (.var 3) (.cons (.var 6) .nil))) (.cons (.call "_law_state" (.cons (.var 4) (.cons (.var 6) .nil))) .nil)))) (.cons (.ret (.cst (.bl false)))
  .nil) .nil)
  .nil)
def F4_gp : ISs := (.cons (.asg (.one 8) (.call "gaps" (.cons (.var 3) .nil)))
  (.cons (.ifs (.nott (.call "_law_same" (.cons (.var 8) (.cons (.call "_law_gaps" (.cons (.var 4) .nil)) .nil)))) (.cons (.ret (.cst (.bl false)))
  .nil) .nil)
  (.cons (.mut0 "clear" (.var 8))
  .nil)))
def F4_turn : ISs := (.cons (.fors (.one 6) (.rng2 (.cst (.int 1)) (.bin .add (.idx (.var 4) (.cst (.str "top"))) (.cst (.int 1)))) F4_st)
  (.cons (.fors (.one 7) (.rng1 (.cst (.int 2))) F4_gp)
  (.cons (.asg (.one 9) (.call "_law_deed" (.cons (.var 1) (.cons (.var 4) (.cons (.cst (.int 6)) .nil)))))
  (.cons (.ifs (.nott (.call "_law_same" (.cons (.call "_law_told" (.cons (.var 3) (.cons (.var 9) .nil))) (.cons (.call "_law_due" (.cons (.var 4) (.cons (.var 9) .nil))) .nil)))) (.cons (.ret (.cst (.bl false)))
  .nil) .nil)
  .nil))))
def F4_law : Fn := ⟨1, 10, (.cons (.asg (.one 1) (.call "_law_start" (.cons (.var 0) .nil)))
  (.cons (.asg (.one 2) (.call "_law_made" (.cons (.var 1) (.cons (.cst (.int 6)) (.cons (.cst (.int 60)) .nil)))))
  (.cons (.ifs (.isN false (.var 2)) (.cons (.ret (.cst (.bl false)))
  .nil) .nil)
  (.cons (.asg (.many [3, 4]) (.var 2))
  (.cons (.fors (.one 5) (.rng1 (.cst (.int 4))) F4_turn)
  (.cons (.ret (.cst (.bl true)))
  .nil))))))⟩
structure K4 (P : Prog) : Prop where
  g : KG P
  state_in : look P "state_in" = some F_state_in
  state_of : look P "state_of" = some F_state_of
  gaps : look P "gaps" = some F_gaps
  lstate : look P "_law_state" = some F_law_state
  lgaps : look P "_law_gaps" = some F_law_gaps
  made : look P "_law_made" = some F4_law_made
section
variable {P : Prog} {W n : Nat} {ns : List Int} {o b t : Nat} {dl : List Nat} {X : Off} {s : Store}
theorem Ans.frz_plain {t : Nat} (ht : t ≤ 129) {a : Ans} (h : a.fit t) : D.plain a.m.frz = true ∧ D.tall a.m.frz ≤ 1 := by
  have hL : 60000 ≤ LIM := by decide
  cases a with
  | tup p q => exact ⟨rfl, Nat.le_refl _⟩
  | non => exact ⟨rfl, Nat.zero_le _⟩
  | err c => exact ⟨rfl, Nat.zero_le _⟩
  | lst ms =>
    have := h ms rfl
    refine ⟨?_, ?_⟩
    · show D.plain (.lst (ms.map .int)) = true
      simp [D.plain, plain_ints, show ms.length ≤ LIM by omega]
    · show D.tall (.lst (ms.map .int)) ≤ 1
      simp [D.tall, talls_ints]
/-- a deed told, then due: both alike -/
theorem Side.both2 (K : KG P) (S : Side o dl b t X s) (hS : St ns s) (ht : t ≤ 129) (w : Job) (hw : w.small) : ∃ (s2 s3 : Store), run P W (n + 5) "_law_told" [.loc o, w.d] s = .ok (jact X w).2.m s2 ∧ run P W (n + 5) "_law_due" [.loc (b + 3), w.d] s2 = .ok (jact X w).2.m s3 ∧ Side o dl b (t + 1) (jact X w).1 s3 ∧ St ns s3 ∧ s3.length = s.length := by
  have hb := S.ob
  have ho := S.o1
  obtain ⟨s2, h1, h2, h3⟩ := gtold (W := W) (n := n) K.off K.does K.told K.need K.foundO K.settleO S.off S.fit ht w hw
  have B2 : ModAt b X s2 := S.mod.fix h3 fun n h1 h2 z => by
    cases z with
    | head => omega
    | tail _ z => have := (S.d1 _ z).2; omega
  obtain ⟨s3, h4, h5, h6⟩ := gdue (W := W) (n := n + 2) K.holder K.lent K.reported K.found K.settled K.due B2 S.fit ht w hw
  have A3 : OffAt o dl (jact X w).1 s3 := h2.fix h6 fun n h z => by
    simp at z
    cases h with
    | head => omega
    | tail _ h => have := (S.d1 _ h).2; omega
  have e : (jact X w).1.dsk.length = X.dsk.length := by rw [← A3.len, S.off.len]
  have e2 : (jact X w).1.top = X.top := by
    obtain ⟨v1, h7⟩ := h5.di
    obtain ⟨v5, hv5⟩ := S.mod.di
    have h8 : s3[b + 3]? = s[b + 3]? := by
      rw [h6.2 (b + 3) (fun z => by simp at z), h3.2 (b + 3) (fun z => by
        cases z with
        | head => omega
        | tail _ z => have := (S.d1 _ z).2; omega)]
    rw [h8, hv5] at h7
    have := Option.some.inj h7
    injection this with h9
    injection h9 with _ h10
    injection h10 with h11
    injection h11 with _ h12
    injection h12 with h13
    exact h13.symm
  refine ⟨s2, s3, h1, h4, ⟨A3, h5, (fit_jact S.fit ht w).1, by rw [e]; exact S.n0, by rw [e2]; exact S.top1, S.o1, S.ob, S.d1, by rw [h6.1, h3.1]; exact S.len⟩, hS.keep ?_, by rw [h6.1, h3.1]⟩
  rw [h6.2 0 (fun z => by simp at z; omega), h3.2 0 (fun z => by
    cases z with
    | head => omega
    | tail _ z => have := (S.d1 _ z).1; omega)]
/-- a deed drawn, told, due -/
theorem Side.turn (K : KG P) (S : Side o dl b t X s) (hS : St ns s) (ht : t ≤ 129) {wide : Int} (h0 : 0 < wide) (h1 : wide < 1000) : ∃ (dd : List D) (m : M) (X' : Off) (s1 s2 s3 : Store), run P W (n + 6) "_law_deed" [.loc 0, .loc (b + 3), .int wide] s = .ok (.val (.tup dd)) s1 ∧ run P W (n + 6) "_law_told" [.loc o, .tup dd] s1 = .ok m s2 ∧ run P W (n + 6) "_law_due" [.loc (b + 3), .tup dd] s2 = .ok m s3 ∧ run P W (n + 6) "_law_same" [m.frz, m.frz] s3 = .ok (.val (.bl true)) s3 ∧ ((∃ d, m = .val d) ∨ ∃ xs, m = .ol xs) ∧ Side o dl b (t + 1) X' s3 ∧ St ns s3 := by
  have hob := S.ob
  obtain ⟨w, s1, r1, D1, hw⟩ := gdeed (W := W) (n := n + 3) K.drawn K.words K.deed (by omega) S.mod hS S.n0 S.fit ht S.top1 h0 h1
  have S1 := S.dr D1
  obtain ⟨s2, s3, r2, r3, S3, hS3, _⟩ := S1.both2 (W := W) (n := n + 1) K D1.1 ht w (Job.drawn_small hw)
  obtain ⟨dd, hdd⟩ : ∃ dd, w.d = .tup dd := by cases w <;> exact ⟨_, rfl⟩
  obtain ⟨p1, p2⟩ := Ans.frz_plain (by omega) (fit_jact S.fit ht w).2
  have hm : (∃ d, (jact X w).2.m = .val d) ∨ ∃ xs, (jact X w).2.m = .ol xs := by
    cases (jact X w).2 with
    | lst ms => exact .inr ⟨_, rfl⟩
    | tup p q => exact .inl ⟨_, rfl⟩
    | non => exact .inl ⟨_, rfl⟩
    | err c => exact .inl ⟨_, rfl⟩
  rw [hdd] at r1 r2 r3
  exact ⟨dd, _, _, s1, s2, s3, r1, r2, r3, same_refl (W := W) K.same (n + 5) _ s3 p1 (by omega), hm, S3, hS3⟩
theorem made_loop (K : KG P) (a2 a3 a4 : Option M) : ∀ (l : List D) (t : Nat) (X : Off) (s0 s : Store) (a7 a8 : Option M), Side o dl b t X s → St ns s → t + l.length ≤ 128 → ∃ X' c7 c8 s', forL [] s0 (.one 7) (execs (run P W (n + 6)) W F4_made) l [some (.val (.loc 0)), some (.val (.int 6)), a2, a3, a4, some (.val (.loc o)), some (.val (.loc (b + 3))), a7, a8] s = .ok .nx [some (.val (.loc 0)), some (.val (.int 6)), a2, a3, a4, some (.val (.loc o)), some (.val (.loc (b + 3))), c7, c8] s' ∧ Side o dl b (t + l.length) X' s' ∧ St ns s'
  | [], t, X, s0, s, a7, a8, S, hS, h => ⟨X, a7, a8, s, if_pos (still_nil _ _), S, hS⟩
  | x :: l, t, X, s0, s, a7, a8, S, hS, h => by
    rw [List.length_cons] at h
    obtain ⟨dd, m, X', s1, s2, s3, r1, r2, r3, r4, hm, S3, hS3⟩ := S.turn (W := W) (n := n) K hS (by omega) (wide := 6) (by omega) (by omega)
    obtain ⟨X'', c7, c8, s', h2, h3, h4⟩ := made_loop K a2 a3 a4 l (t + 1) X' s0 s3 (some (.val x)) (some (.val (.tup dd))) S3 hS3 (by omega)
    refine ⟨X'', c7, c8, s', ?_, ?_, h4⟩
    · rw [forL_cons, if_pos (still_nil _ _)]
      rcases hm with ⟨d, rfl⟩ | ⟨xs, rfl⟩
      · have r4 : run P W (n + 6) "_law_same" [d, d] s3 = _ := r4
        simp [F4_made, r1, r2, r3, r4]
        exact h2
      · have r4 : run P W (n + 6) "_law_same" [.lst xs, .lst xs] s3 = _ := r4
        simp [F4_made, r1, r2, r3, r4]
        exact h2
    · rw [List.length_cons, show t + (l.length + 1) = t + 1 + l.length by omega]
      exact h3
theorem gc_pair {s s' : Store} {i j : Nat} (h : s.length ≤ i) : gc s (.val (.tup [.loc i, .loc j])) s' = s' := by
  unfold gc
  rw [if_neg]
  intro z
  have h2 : (decide (i < s.length) && (decide (j < s.length) && true)) = true := z.2
  rw [Bool.and_eq_true, decide_eq_true_eq] at h2
  omega
theorem made_ok (K : K4 P) (hS : St ns s) (hl : s.length = 1) : ∃ (o b t : Nat) (dl : List Nat) (X : Off) (s' : Store), run P W (n + 7) "_law_made" [.loc 0, .int 6, .int 60] s = .ok (.val (.tup [.loc o, .loc (b + 3)])) s' ∧ Side o dl b t X s' ∧ St ns s' ∧ t ≤ 60 := by
  obtain ⟨d1, d2, d3, top, k, s1, s2, s3, r1, r2, htx, r3, hk, ht1, ht2, hk1, hk6, D3⟩ := drawn_top (P := P) (W := W) (n := n + 5) K.g.drawn hS
  have hlen : s3.length = 1 := by rw [D3.len]; exact hl
  obtain ⟨s4, s5, r4, l4, r5, S5, hS5, _⟩ := side_new (W := W) (n := n + 4) K.g D3.1 (by omega) ht1 ht2 hk1 hk6
  obtain ⟨d6, s6, r6, p6, q6, D6⟩ := drawn_ok (P := P) (W := W) (n := n + 5) K.g.drawn (many := 61) (by omega) (by omega) hS5
  have S6 := S5.dr D6
  obtain ⟨X', c7, c8, s', r7, S7, hS7⟩ := made_loop (W := W) (n := n) K.g (some (.val (.int 60))) (some (.val (.int top))) (some (.val (.int k))) (rng 0 d6) 0 (fresh top k) s6 s6 none none S6 D6.1 (by rw [rng_len]; omega)
  refine ⟨s3.length, s3.length + 1 + k, 0 + (rng 0 d6).length, _, X', s', ?_, S7, hS7, by rw [rng_len]; omega⟩
  rw [hlen] at r4 r5 r7 ⊢
  rw [run_eq K.made rfl (by decide)]
  simp [F4_law_made, begun, r1, r2, htx, r3, hk, hlen, r4, r5, r6, getI_ok' (i := d6) (by omega) (by omega)]
  rw [r7]
  simp [gc_pair, hl]
theorem gaps_plain (X : Off) (h : X.top ≤ 400) : D.plain (.lst (gapsL X)) = true ∧ D.tall (.lst (gapsL X)) ≤ 2 ∧ (gapsL X).length ≤ 400 := by
  have hL : 400 ≤ LIM := by decide
  have hlen : (gapsL X).length ≤ 400 := by
    unfold gapsL
    rw [List.length_map]
    refine Nat.le_trans (List.length_filter_le _ _) ?_
    rw [List.length_take, rgI_len]
    omega
  have hp : ∀ l : List Int, D.plains (l.map (gapT X)) = true ∧ D.talls (l.map (gapT X)) ≤ 1 := fun l => by
    induction l with
    | nil => exact ⟨rfl, Nat.zero_le _⟩
    | cons a r ih =>
      have h1 : D.plain (gapT X a) = true ∧ D.tall (gapT X a) ≤ 1 := by
        unfold gapT
        cases X.holder a with
        | none => exact ⟨rfl, Nat.le_refl _⟩
        | some j => exact ⟨rfl, Nat.le_refl _⟩
      rw [List.map_cons]
      refine ⟨?_, ?_⟩
      · show (D.plain (gapT X a) && D.plains (r.map (gapT X))) = true
        rw [h1.1, ih.1]; rfl
      · show max (D.tall (gapT X a)) (D.talls (r.map (gapT X))) ≤ 1
        exact Nat.max_le.mpr ⟨h1.2, ih.2⟩
  refine ⟨?_, ?_, hlen⟩
  · show (decide ((gapsL X).length ≤ LIM) && D.plains (gapsL X)) = true
    rw [decide_eq_true (show (gapsL X).length ≤ LIM by omega)]
    exact (hp _).1
  · show D.talls (gapsL X) + 1 ≤ 2
    have := (hp (((rgI 1 (X.top + 1)).take (max 0 (greatest X - 1)).toNat).filter (gapQ X))).2
    unfold gapsL
    omega
theorem st_loop (K : K4 P) (S : Side o dl b t X s) (a0 a1 a2 a5 a7 a8 a9 : Option M) : ∀ (l : List Int) (s0 : Store) (a6 : Option M), (∀ m ∈ l, 1 ≤ m ∧ m ≤ X.top) → ∃ c6, forL [] s0 (.one 6) (execs (run P W (n + 6)) W F4_st) (l.map .int) [a0, a1, a2, some (.val (.loc o)), some (.val (.loc (b + 3))), a5, a6, a7, a8, a9] s = .ok .nx [a0, a1, a2, some (.val (.loc o)), some (.val (.loc (b + 3))), a5, c6, a7, a8, a9] s
  | [], s0, a6, h => ⟨a6, if_pos (still_nil _ _)⟩
  | m :: l, s0, a6, h => by
    obtain ⟨h1, h2⟩ := h m (List.mem_cons_self ..)
    have r1 := state_of_ok (W := W) (n := n + 3) K.g.off K.g.need K.state_in K.state_of S.off S.fit h1 h2
    have r2 := mstate_ok (W := W) (n := n + 4) K.g.holder K.lstate S.mod S.fit m
    have r3 := same_refl (W := W) K.g.same (n + 5) (.str (stW X m)) s rfl (Nat.zero_le _)
    obtain ⟨c6, ih⟩ := st_loop K S a0 a1 a2 a5 a7 a8 a9 l s0 (some (.val (.int m))) fun x hx => h x (List.mem_cons_of_mem _ hx)
    refine ⟨c6, ?_⟩
    rw [List.map_cons, forL_cons, if_pos (still_nil _ _)]
    simp [F4_st, r1, r2, r3]
    exact ih
theorem gp_loop (K : K4 P) (S : Side o dl b t X s) (a0 a1 a2 a5 a6 a9 : Option M) : ∀ (l : List D) (s0 : Store) (a7 a8 : Option M), ∃ c7 c8, forL [] s0 (.one 7) (execs (run P W (n + 6)) W F4_gp) l [a0, a1, a2, some (.val (.loc o)), some (.val (.loc (b + 3))), a5, a6, a7, a8, a9] s = .ok .nx [a0, a1, a2, some (.val (.loc o)), some (.val (.loc (b + 3))), a5, a6, c7, c8, a9] s
  | [], s0, a7, a8 => ⟨a7, a8, if_pos (still_nil _ _)⟩
  | x :: l, s0, a7, a8 => by
    have r1 := gaps_ok (W := W) (n := n + 3) K.g.off K.state_in K.gaps S.off S.fit
    have r2 := mgaps_ok (W := W) (n := n + 3) K.g.holder K.lstate K.lgaps S.mod S.fit (by have := S.top1; omega)
    obtain ⟨p1, p2, p3⟩ := gaps_plain X S.fit.top
    have r3 := same_refl (W := W) K.g.same (n + 5) (.lst (gapsL X)) s p1 (by omega)
    obtain ⟨c7, c8, ih⟩ := gp_loop K S a0 a1 a2 a5 a6 a9 l s0 (some (.val x)) (some (.ol []))
    refine ⟨c7, c8, ?_⟩
    rw [forL_cons, if_pos (still_nil _ _)]
    simp [F4_gp, r1, r2, r3]
    exact ih
theorem turns4 (K : K4 P) (a0 a2 : Option M) : ∀ (l : List D) (t : Nat) (X : Off) (s0 s : Store) (a5 a6 a7 a8 a9 : Option M), Side o dl b t X s → St ns s → t + l.length ≤ 128 → ∃ e' s', forL [] s0 (.one 5) (execs (run P W (n + 6)) W F4_turn) l [a0, some (.val (.loc 0)), a2, some (.val (.loc o)), some (.val (.loc (b + 3))), a5, a6, a7, a8, a9] s = .ok .nx e' s'
  | [], t, X, s0, s, a5, a6, a7, a8, a9, S, hS, h => ⟨_, _, if_pos (still_nil _ _)⟩
  | x :: l, t, X, s0, s, a5, a6, a7, a8, a9, S, hS, h => by
    rw [List.length_cons] at h
    obtain ⟨vd, hdi⟩ := S.mod.di
    obtain ⟨c6, h1⟩ := st_loop (W := W) (n := n) K S a0 (some (.val (.loc 0))) a2 (some (.val x)) a7 a8 a9 (rgI 1 (X.top + 1)) s a6 fun m hm => by
      obtain ⟨g1, g2⟩ := rgI_mem.mp hm
      omega
    obtain ⟨c7, c8, h2⟩ := gp_loop (W := W) (n := n) K S a0 (some (.val (.loc 0))) a2 (some (.val x)) c6 a9 (rng 0 2) s a7 a8
    obtain ⟨dd, m, X', s1, s2, s3, r1, r2, r3, r4, hm, S3, hS3⟩ := S.turn (W := W) (n := n) K.g hS (by omega) (wide := 6) (by omega) (by omega)
    obtain ⟨e', s', h3⟩ := turns4 K a0 a2 l (t + 1) X' s0 s3 (some (.val x)) c6 c7 c8 (some (.val (.tup dd))) S3 hS3 (by omega)
    refine ⟨e', s', ?_⟩
    rw [forL_cons, if_pos (still_nil _ _)]
    rw [← rng_rgI] at h1
    have g2 : ∀ (e : Env) (s : Store), getI (.val (.int 2)) e s = .ok 2 e s := fun e s => getI_ok' (by omega) (by omega)
    rcases hm with ⟨d, rfl⟩ | ⟨xs, rfl⟩
    · have r4 : run P W (n + 6) "_law_same" [d, d] s3 = _ := r4
      simp [F4_turn, hdi, h1, g2, h2, r1, r2, r3, r4]
      exact h3
    · have r4 : run P W (n + 6) "_law_same" [.lst xs, .lst xs] s3 = _ := r4
      simp [F4_turn, hdi, h1, g2, h2, r1, r2, r3, r4]
      exact h3
theorem law4_ok (K : K4 P) (hl : look P "law" = some F4_law) (ns : List Int) : ∃ s, run P W (n + 8) "law" [.scr ns] [] = .ok (.val (.bl true)) s := by
  obtain ⟨m, h0⟩ := start_ok (P := P) (W := W) (n := n + 6) (ns := ns) K.g.start
  have S0 : St ns [⟨.lst [.scr ns, .int 0, .int m, .int 0], 0⟩] := ⟨0, m, 0, 0, rfl, by omega⟩
  obtain ⟨o, b, t, dl, X, s1, r1, S1, hS1, ht⟩ := made_ok (W := W) (n := n) K S0 rfl
  obtain ⟨e', s', r2⟩ := turns4 (W := W) (n := n + 1) K (some (.val (.scr ns))) (some (.val (.tup [.loc o, .loc (b + 3)]))) (rng 0 4) t X s1 s1 none none none none none S1 hS1 (by rw [rng_len]; omega)
  have g4 : ∀ (e : Env) (s : Store), getI (.val (.int 4)) e s = .ok 4 e s := fun e s => getI_ok' (by omega) (by omega)
  rw [run_eq hl rfl (by decide)]
  apply Exists.intro
  simp [F4_law, begun, h0, r1, g4]
  rw [r2]
  simp
  rfl
end
end OI.Y

namespace OI.Y
open PySem (Str)
/-! ### what the law reckons -/
theorem kg_of : KG prog where
  off := ⟨rfl, rfl, rfl, rfl, rfl, rfl, rfl, rfl, rfl, rfl⟩
  need := rfl
  foundO := rfl
  settleO := rfl
  start := rfl
  drawn := rfl
  same := rfl
  office := rfl
  holder := rfl
  lent := rfl
  reported := rfl
  found := rfl
  settled := rfl
  due := rfl
  does := rfl
  told := rfl
  words := rfl
  deed := rfl
theorem pure_law : ∀ ns : List Int, ns.length ≤ 63 → (∀ z ∈ ns, PySem.Builtin.Int.intBits z ≤ 1048576) → ∃ s, run prog 1000000 100 "law" [.scr ns] [] = .ok (.val (.bl true)) s := fun ns _ _ => law4_ok (n := 92) ⟨kg_of, rfl, rfl, rfl, rfl, rfl, rfl⟩ rfl ns
end OI.Y
/-! OIb: how values and the store of OI lie in the hand layer's abstract heap; what a step keeps. -/
namespace OI
open PySem PySem.Spec PyProof.Rows L2

/-- the constants: the written part, classes by name, the caught exception -/
structure Cn where
  K : PySem.W.Frag
  cls : String → Addr
  icl : String → Addr
  exn : Option (Addr × String)
/-- where the shared objects lie, whose a container is, the abstract heap -/
structure Wd where
  am : List Addr
  ow : Addr → Option Pl
  H : Hp

def KL (K : PySem.W.Frag) (a : Addr) (xs : List V) : Prop :=
  ∃ (o : Obj) (its : Array Value) (n : Nat), K.lookup a = some o ∧ o.cls = .type "list" ∧ o.dict = none ∧ o.data = .seq its n ∧ its.size ≤ sizeLine ∧ Vals xs its.toList
def KT (K : PySem.W.Frag) (a : Addr) (xs : List V) : Prop :=
  ∃ (o : Obj) (its : Array Value) (n : Nat), K.lookup a = some o ∧ o.cls = .type "tuple" ∧ o.data = .seq its n ∧ its.size ≤ sizeLine ∧ Vals xs its.toList
/-- a list, a tuple that stays as it is -/
def FzL (c : Cn) (S : Wd) (a : Addr) (xs : List V) : Prop := (Rd S.H a (.lst xs) ∧ S.ow a = none) ∨ KL c.K a xs
def FzT (c : Cn) (S : Wd) (a : Addr) (xs : List V) : Prop := (Rd S.H a (.tup xs) ∧ S.ow a = none) ∨ KT c.K a xs
theorem FzL.sq {c : Cn} {S : Wd} {a : Addr} {xs : List V} (h : FzL c S a xs) : SqL c.K S.H a xs := h.elim (fun h => .inl h.1) .inr
theorem FzT.sq {c : Cn} {S : Wd} {a : Addr} {xs : List V} (h : FzT c S a xs) : SqT c.K S.H a xs := h.elim (fun h => .inl h.1) .inr

def keyOf : D → Key
  | .int i => .inl i
  | .str x => .inr x
  | _ => .inl 0
/-- a dict: its keys, its values -/
def dHO (c : Cn) (p : Addr) (t : Bool) (ks : List D) (vs : List V) : HO :=
  if t then .ext fun _ => False else .dK ((ks.zip vs).map fun q => (keyOf q.1, q.2))

mutual
def RepD (c : Cn) (S : Wd) : D → V → Prop
  | .non, v => v = .non
  | .bl b, v => v = .bl b
  | .int i, v => v = .int i
  | .str x, v => v = .str x
  | .tup xs, v => ∃ p vs, v = .ref p ∧ FzT c S p vs ∧ RepDs c S xs vs
  | .lst xs, v => ∃ p vs, v = .ref p ∧ S.H p = some (.lst vs) ∧ S.ow p = none ∧ RepDs c S xs vs
  | .dic t kvs, v => ∃ p vs, v = .ref p ∧ S.H p = some (dHO c p t (kvs.map (·.1)) vs) ∧ S.ow p = none ∧ RepKs c S t kvs vs
  | .scr ns, v => ∃ p, v = .ref p ∧ FzL c S p (ns.map V.int)
  | .loc n, v => ∃ a, v = .ref a ∧ S.am[n]? = some a
  | .exn s, v => ∃ a, v = .ref a ∧ c.exn = some (a, s)
  | .lam _ _, _ => False
def RepDs (c : Cn) (S : Wd) : List D → List V → Prop
  | [], vs => vs = []
  | d :: ds, vs => ∃ v r, vs = v :: r ∧ RepD c S d v ∧ RepDs c S ds r
def RepKs (c : Cn) (S : Wd) (t : Bool) : List (D × D) → List V → Prop
  | [], vs => vs = []
  | (k, d) :: ds, vs => ∃ v r, vs = v :: r ∧ keyOk t k = true ∧ RepD c S d v ∧ RepKs c S t ds r
end

/-- what is frozen stays; shared objects stay where they are -/
structure Fr (S S' : Wd) : Prop where
  keep : ∀ a o, S.H a = some o → S.ow a = none → S'.H a = some o ∧ S'.ow a = none
  am : ∃ more, S'.am = S.am ++ more
theorem Fr.refl (S : Wd) : Fr S S := ⟨fun _ _ h1 h2 => ⟨h1, h2⟩, [], by simp⟩
theorem Fr.trans {S S1 S2 : Wd} (a : Fr S S1) (b : Fr S1 S2) : Fr S S2 :=
  ⟨fun p o h1 h2 => b.keep p o (a.keep p o h1 h2).1 (a.keep p o h1 h2).2, by
    obtain ⟨m, e⟩ := a.am
    obtain ⟨m2, e2⟩ := b.am
    exact ⟨m ++ m2, by rw [e2, e, List.append_assoc]⟩⟩
theorem Fr.amAt {S S' : Wd} (f : Fr S S') {n : Nat} {a : Addr} (h : S.am[n]? = some a) : S'.am[n]? = some a := by
  obtain ⟨m, e⟩ := f.am
  rw [e, List.getElem?_append_left (List.getElem?_eq_some_iff.mp h).1]
  exact h
theorem Fr.rd {S S' : Wd} (f : Fr S S') {a : Addr} {u : HO} (h : Rd S.H a u) (ho : S.ow a = none) : Rd S'.H a u ∧ S'.ow a = none := by
  rcases h with h | ⟨o, h⟩
  · exact ⟨.inl (f.keep a _ h ho).1, (f.keep a _ h ho).2⟩
  · exact ⟨.inr ⟨o, (f.keep a _ h ho).1⟩, (f.keep a _ h ho).2⟩
theorem FzL.mono {c : Cn} {S S' : Wd} (f : Fr S S') {a : Addr} {xs : List V} (h : FzL c S a xs) : FzL c S' a xs := h.elim (fun h => .inl (f.rd h.1 h.2)) .inr
theorem FzT.mono {c : Cn} {S S' : Wd} (f : Fr S S') {a : Addr} {xs : List V} (h : FzT c S a xs) : FzT c S' a xs := h.elim (fun h => .inl (f.rd h.1 h.2)) .inr

mutual
theorem RepD.mono {c : Cn} {S S' : Wd} (f : Fr S S') : ∀ {d : D} {v : V}, RepD c S d v → RepD c S' d v
  | .non, _, h => h
  | .bl _, _, h => h
  | .int _, _, h => h
  | .str _, _, h => h
  | .tup xs, _, ⟨p, vs, e, h1, h2⟩ => ⟨p, vs, e, h1.mono f, RepDs.mono f h2⟩
  | .lst xs, _, ⟨p, vs, e, h1, h2, h3⟩ => ⟨p, vs, e, (f.keep p _ h1 h2).1, (f.keep p _ h1 h2).2, RepDs.mono f h3⟩
  | .dic t kvs, _, ⟨p, vs, e, h1, h2, h3⟩ => ⟨p, vs, e, (f.keep p _ h1 h2).1, (f.keep p _ h1 h2).2, RepKs.mono f h3⟩
  | .scr _, _, ⟨p, e, h⟩ => ⟨p, e, h.mono f⟩
  | .loc _, _, ⟨a, e, h⟩ => ⟨a, e, f.amAt h⟩
  | .exn _, _, h => h
  | .lam _ _, _, h => False.elim h
theorem RepDs.mono {c : Cn} {S S' : Wd} (f : Fr S S') : ∀ {d : List D} {v : List V}, RepDs c S d v → RepDs c S' d v
  | [], _, h => h
  | d :: ds, _, ⟨v, r, e, h1, h2⟩ => ⟨v, r, e, RepD.mono f h1, RepDs.mono f h2⟩
theorem RepKs.mono {c : Cn} {S S' : Wd} (f : Fr S S') {t : Bool} : ∀ {d : List (D × D)} {v : List V}, RepKs c S t d v → RepKs c S' t d v
  | [], _, h => h
  | (k, d) :: ds, _, ⟨v, r, e, h0, h1, h2⟩ => ⟨v, r, e, h0, RepD.mono f h1, RepKs.mono f h2⟩
end
theorem RepDs.length {c : Cn} {S : Wd} : ∀ {ds : List D} {vs : List V}, RepDs c S ds vs → vs.length = ds.length
  | [], _, h => by rw [show _ = [] from h]; rfl
  | d :: ds, _, ⟨v, r, e, _, h⟩ => by rw [e, List.length_cons, List.length_cons, RepDs.length h]
theorem RepKs.length {c : Cn} {S : Wd} {t : Bool} : ∀ {ds : List (D × D)} {vs : List V}, RepKs c S t ds vs → vs.length = ds.length
  | [], _, h => by rw [show _ = [] from h]; rfl
  | (_, d) :: ds, _, ⟨v, r, e, _, _, h⟩ => by rw [e, List.length_cons, List.length_cons, RepKs.length h]
theorem RepDs.get {c : Cn} {S : Wd} : ∀ {ds : List D} {vs : List V} {i : Nat} {d : D}, RepDs c S ds vs → ds[i]? = some d → ∃ v, vs[i]? = some v ∧ RepD c S d v
  | [], _, _, _, _, e => by simp at e
  | d :: ds, _, 0, _, ⟨v, r, e, h, _⟩, e1 => by
    subst e
    simp at e1
    subst e1
    exact ⟨v, rfl, h⟩
  | d :: ds, _, i + 1, _, ⟨v, r, e, _, h⟩, e1 => by
    subst e
    simp at e1
    obtain ⟨v', e2, h2⟩ := RepDs.get h e1
    exact ⟨v', by simpa using e2, h2⟩
theorem RepDs.getv {c : Cn} {S : Wd} : ∀ {ds : List D} {vs : List V} {i : Nat} {v : V}, RepDs c S ds vs → vs[i]? = some v → ∃ d, ds[i]? = some d ∧ RepD c S d v
  | [], _, _, _, h, e => by rw [show _ = [] from h] at e; simp at e
  | d :: ds, _, 0, _, ⟨v, r, e, h, _⟩, e1 => by
    subst e
    simp at e1
    subst e1
    exact ⟨d, rfl, h⟩
  | d :: ds, _, i + 1, _, ⟨v, r, e, _, h⟩, e1 => by
    subst e
    simp at e1
    obtain ⟨d', e2, h2⟩ := RepDs.getv h e1
    exact ⟨d', by simpa using e2, h2⟩
theorem RepDs.append {c : Cn} {S : Wd} : ∀ {ds es : List D} {vs ws : List V}, RepDs c S ds vs → RepDs c S es ws → RepDs c S (ds ++ es) (vs ++ ws)
  | [], _, _, _, h, h2 => by rw [show _ = [] from h]; exact h2
  | d :: ds, _, _, _, ⟨v, r, e, h, h1⟩, h2 => by
    subst e
    exact ⟨v, _, rfl, h, RepDs.append h1 h2⟩
theorem RepDs.take {c : Cn} {S : Wd} : ∀ {ds : List D} {vs : List V} (n : Nat), RepDs c S ds vs → RepDs c S (ds.take n) (vs.take n)
  | _, _, 0, _ => rfl
  | [], _, n + 1, h => by rw [show _ = [] from h]; rfl
  | d :: ds, _, n + 1, ⟨v, r, e, h, h1⟩ => by
    subst e
    exact ⟨v, _, rfl, h, RepDs.take n h1⟩
theorem RepDs.drop {c : Cn} {S : Wd} : ∀ {ds : List D} {vs : List V} (n : Nat), RepDs c S ds vs → RepDs c S (ds.drop n) (vs.drop n)
  | _, _, 0, h => h
  | [], _, n + 1, h => by rw [show _ = [] from h]; rfl
  | d :: ds, _, n + 1, ⟨v, r, e, h, h1⟩ => by
    subst e
    exact RepDs.drop n h1
theorem RepDs.set {c : Cn} {S : Wd} {d : D} {v : V} (hd : RepD c S d v) : ∀ {ds : List D} {vs : List V} (i : Nat), RepDs c S ds vs → RepDs c S (ds.set i d) (vs.set i v)
  | [], _, _, h => by rw [show _ = [] from h]; rfl
  | e :: ds, _, 0, ⟨w, r, q, h, h1⟩ => by
    subst q
    exact ⟨v, _, rfl, hd, h1⟩
  | e :: ds, _, i + 1, ⟨w, r, q, h, h1⟩ => by
    subst q
    exact ⟨w, _, rfl, h, RepDs.set hd i h1⟩
theorem RepDs.reverse {c : Cn} {S : Wd} : ∀ {ds : List D} {vs : List V}, RepDs c S ds vs → RepDs c S ds.reverse vs.reverse
  | [], _, h => by rw [show _ = [] from h]; rfl
  | d :: ds, _, ⟨w, r, q, h, h1⟩ => by
    subst q
    rw [List.reverse_cons, List.reverse_cons]
    exact RepDs.append (RepDs.reverse h1) ⟨w, [], rfl, h, rfl⟩
theorem RepDs.ints {c : Cn} {S : Wd} : ∀ ns : List Int, RepDs c S (ns.map .int) (ns.map V.int)
  | [] => rfl
  | n :: ns => ⟨_, _, rfl, rfl, RepDs.ints ns⟩
theorem RepDs.strs {c : Cn} {S : Wd} : ∀ ns : List Str, RepDs c S (ns.map .str) (ns.map V.str)
  | [] => rfl
  | n :: ns => ⟨_, _, rfl, rfl, RepDs.strs ns⟩
theorem RepDs.flatten {c : Cn} {S : Wd} {ds : List D} {vs : List V} (h : RepDs c S ds vs) : ∀ k : Nat, RepDs c S (List.replicate k ds).flatten (List.replicate k vs).flatten
  | 0 => rfl
  | k + 1 => by
    rw [List.replicate_succ, List.replicate_succ, List.flatten_cons, List.flatten_cons]
    exact RepDs.append h (RepDs.flatten h k)

/-! ### containers of their own, fields, objects -/
def RepM (c : Cn) (S : Wd) (pl : Pl) : M → V → Prop
  | .val d, v => RepD c S d v
  | .ol xs, v => ∃ p vs, v = .ref p ∧ S.H p = some (.lst vs) ∧ S.ow p = some pl ∧ RepDs c S xs vs
  | .od t kvs, v => ∃ p vs, v = .ref p ∧ S.H p = some (dHO c p t (kvs.map (·.1)) vs) ∧ S.ow p = some pl ∧ RepKs c S t kvs vs
/-- whose it ever is, to be read -/
def RepV (c : Cn) (S : Wd) : M → V → Prop
  | .val d, v => RepD c S d v
  | .ol xs, v => ∃ p vs, v = .ref p ∧ S.H p = some (.lst vs) ∧ RepDs c S xs vs
  | .od t kvs, v => ∃ p vs, v = .ref p ∧ S.H p = some (dHO c p t (kvs.map (·.1)) vs) ∧ RepKs c S t kvs vs
theorem RepM.view {c : Cn} {S : Wd} {pl : Pl} : ∀ {m : M} {v : V}, RepM c S pl m v → RepV c S m v
  | .val _, _, h => h
  | .ol _, _, ⟨p, vs, e, h, _, r⟩ => ⟨p, vs, e, h, r⟩
  | .od _ _, _, ⟨p, vs, e, h, _, r⟩ => ⟨p, vs, e, h, r⟩
def RepF (c : Cn) (S : Wd) (n : Nat) : List (String × M) → List (Str × V) → Prop
  | [], fs => fs = []
  | (f, m) :: r, fs => ∃ v q, fs = (Str.ofString f, v) :: q ∧ RepM c S (.fld n f) m v ∧ RepF c S n r q
def RepO (c : Cn) (S : Wd) (n : Nat) (a : Addr) : SObj → Prop
  | .ins k fs => ∃ dx fs', S.H a = some (.ins (c.icl k) dx fs') ∧ RepF c S n fs fs' ∧ (fs.map (·.1)).Nodup
  | .lst xs => ∃ vs, S.H a = some (.lst vs) ∧ RepDs c S xs vs
  | .dic t kvs => ∃ vs, S.H a = some (dHO c a t (kvs.map (·.1)) vs) ∧ RepKs c S t kvs vs

/-- lists, tuples and dicts have their largest length -/
def HL (H : Hp) : Prop := ∀ a, (∀ xs, H a = some (.lst xs) → xs.length ≤ 16777216) ∧ (∀ xs, H a = some (.tup xs) → xs.length ≤ 16777216) ∧ ∀ xs, H a = some (.dK xs) → xs.length ≤ 16777216

structure RlS (c : Cn) (S : Wd) (s : Store) : Prop where
  len : S.am.length = s.length
  obj : ∀ n e, s[n]? = some e → ∃ a, S.am[n]? = some a ∧ S.ow a = some (.obj n) ∧ RepO c S n a e.o
  dom : ∀ a, S.ow a ≠ none → S.H a ≠ none
  src : ∀ a q n, S.ow a = some q → q.src = some n → n < s.length
  hl : HL S.H
structure Rl (c : Cn) (S : Wd) (e : Env) (s : Store) (σ : L2.St) : Prop extends RlS c S s where
  elen : e.length = σ.length
  slot : ∀ i m, e[i]? = some (some m) → ∃ v, σ[i]? = some (some v) ∧ RepM c S (.slot i) m v

/-! ### steps -/
def VerS (s s' : Store) : Prop := ∀ (n : Nat) (e : Ent), s[n]? = some e → ∃ e' : Ent, s'[n]? = some e' ∧ e.v ≤ e'.v ∧ (e.v = e'.v → e' = e)
theorem VerS.refl (s : Store) : VerS s s := fun _ e h => ⟨e, h, Nat.le_refl _, fun _ => rfl⟩
theorem VerS.trans {s s1 s2 : Store} (a : VerS s s1) (b : VerS s1 s2) : VerS s s2 := fun n e h => by
  obtain ⟨e1, h1, l1, q1⟩ := a n e h
  obtain ⟨e2, h2, l2, q2⟩ := b n e1 h1
  refine ⟨e2, h2, by omega, fun z => ?_⟩
  have z1 : e.v = e1.v := by omega
  have z2 : e1.v = e2.v := by omega
  rw [q2 z2, q1 z1]
theorem VerS.len {s s' : Store} (a : VerS s s') : s.length ≤ s'.length := by
  rcases Nat.lt_or_ge s'.length s.length with h | h
  · have e := a s'.length _ (List.getElem?_eq_getElem h)
    obtain ⟨e', h', _⟩ := e
    rw [List.getElem?_eq_none (Nat.le_refl _)] at h'
    cases h'
  · exact h
/-- what belongs to shared objects: unchanged where the store's entry is; others' containers: unchanged -/
structure StC (S S' : Wd) (s s' : Store) : Prop extends Fr S S' where
  ver : VerS s s'
  ent : ∀ n e, s[n]? = some e → s'[n]? = some e → ∀ a p, S.ow a = some p → p.src = some n → S'.H a = S.H a ∧ S'.ow a = some p
  oth : ∀ a, S.ow a = some .oth → S'.H a = S.H a ∧ S'.ow a = some .oth
theorem StC.refl (S : Wd) (s : Store) : StC S S s s := ⟨Fr.refl S, VerS.refl s, fun _ _ _ _ _ _ h _ => ⟨rfl, h⟩, fun _ h => ⟨rfl, h⟩⟩
theorem StC.trans {S S1 S2 : Wd} {s s1 s2 : Store} (a : StC S S1 s s1) (b : StC S1 S2 s1 s2) : StC S S2 s s2 where
  toFr := a.toFr.trans b.toFr
  ver := a.ver.trans b.ver
  ent := fun n e h h2 p q hp hq => by
    obtain ⟨e1, h1, l1, q1⟩ := a.ver n e h
    obtain ⟨e2, h2', l2, q2⟩ := b.ver n e1 h1
    rw [h2] at h2'
    cases h2'
    have z : e.v = e1.v := by omega
    have z1 := q1 z
    subst z1
    obtain ⟨x1, x2⟩ := a.ent n _ h h1 p q hp hq
    obtain ⟨y1, y2⟩ := b.ent n _ h1 h2 p q x2 hq
    exact ⟨y1.trans x1, y2⟩
  oth := fun p hp => by
    obtain ⟨x1, x2⟩ := a.oth p hp
    obtain ⟨y1, y2⟩ := b.oth p x2
    exact ⟨y1.trans x1, y2⟩
/-- an expression's step -/
structure StE (S S' : Wd) (s s' : Store) : Prop extends StC S S' s s' where
  slot : ∀ a i, S.ow a = some (.slot i) → S'.H a = S.H a ∧ (S'.ow a = some (.slot i) ∨ S'.ow a = none)
theorem StE.refl (S : Wd) (s : Store) : StE S S s s := ⟨StC.refl S s, fun _ _ h => ⟨rfl, .inl h⟩⟩

theorem RepF.view {c : Cn} {S : Wd} {n : Nat} : ∀ {fs : List (String × M)} {gs : List (Str × V)}, RepF c S n fs gs → gs.map (·.1) = fs.map fun p => Str.ofString p.1
  | [], _, h => by rw [show _ = [] from h]; rfl
  | (f, m) :: r, _, ⟨v, q, e, _, h⟩ => by
    subst e
    simp [RepF.view h]
end OI

/-! OIb2: what is kept by a step: slots, fields, shared objects; freezing; reading what another's is. -/
namespace OI
open PySem PySem.Spec PyProof.Rows L2
variable {c : Cn} {S S' S1 : Wd} {s s' : Store} {e : Env} {σ : L2.St}

theorem RepM.step {pl : Pl} (f : Fr S S') {m : M} {v : V} (h : RepM c S pl m v) (k : ∀ p, S.ow p = some pl → S'.H p = S.H p ∧ S'.ow p = some pl) : RepM c S' pl m v := by
  cases m with
  | val d => exact RepD.mono f h
  | ol xs =>
    obtain ⟨p, vs, e, h1, h2, h3⟩ := h
    exact ⟨p, vs, e, by rw [(k p h2).1]; exact h1, (k p h2).2, RepDs.mono f h3⟩
  | od t kvs =>
    obtain ⟨p, vs, e, h1, h2, h3⟩ := h
    exact ⟨p, vs, e, by rw [(k p h2).1]; exact h1, (k p h2).2, RepKs.mono f h3⟩
theorem RepF.step {n : Nat} (f : Fr S S') (k : ∀ p g, S.ow p = some (.fld n g) → S'.H p = S.H p ∧ S'.ow p = some (.fld n g)) : ∀ {fs : List (String × M)} {gs : List (Str × V)}, RepF c S n fs gs → RepF c S' n fs gs
  | [], _, h => h
  | (g, m) :: r, _, ⟨v, q, e, h1, h2⟩ => ⟨v, q, e, h1.step f (fun p hp => k p g hp), RepF.step f k h2⟩
theorem RepO.step {n : Nat} {a : Addr} {o : SObj} (f : Fr S S') (ha : S'.H a = S.H a) (k : ∀ p g, S.ow p = some (.fld n g) → S'.H p = S.H p ∧ S'.ow p = some (.fld n g)) (h : RepO c S n a o) : RepO c S' n a o := by
  cases o with
  | ins k' fs =>
    obtain ⟨dx, fs', h1, h2, h3⟩ := h
    exact ⟨dx, fs', by rw [ha]; exact h1, h2.step f k, h3⟩
  | lst xs =>
    obtain ⟨vs, h1, h2⟩ := h
    exact ⟨vs, by rw [ha]; exact h1, h2.mono f⟩
  | dic t kvs =>
    obtain ⟨vs, h1, h2⟩ := h
    exact ⟨vs, by rw [ha]; exact h1, h2.mono f⟩
theorem RlS.step (R : RlS c S s) (f : Fr S S') (k : ∀ p q n, S.ow p = some q → q.src = some n → S'.H p = S.H p ∧ S'.ow p = some q) (am : S'.am = S.am) (dom : ∀ a, S'.ow a ≠ none → S'.H a ≠ none) (src : ∀ a q n, S'.ow a = some q → q.src = some n → n < s.length) (hl : HL S'.H) : RlS c S' s where
  len := by rw [am]; exact R.len
  obj := fun n e h => by
    obtain ⟨a, h1, h2, h3⟩ := R.obj n e h
    exact ⟨a, by rw [am]; exact h1, (k a _ n h2 rfl).2, h3.step f (k a _ n h2 rfl).1 fun p g hp => k p _ n hp rfl⟩
  dom := dom
  src := src
  hl := hl
theorem Rl.step (R : Rl c S e s σ) (f : Fr S S') (k : ∀ p q n, S.ow p = some q → q.src = some n → S'.H p = S.H p ∧ S'.ow p = some q) (ks : ∀ p i, S.ow p = some (.slot i) → S'.H p = S.H p ∧ S'.ow p = some (.slot i)) (am : S'.am = S.am)
    (dom : ∀ a, S'.ow a ≠ none → S'.H a ≠ none) (src : ∀ a q n, S'.ow a = some q → q.src = some n → n < s.length) (hl : HL S'.H) : Rl c S' e s σ where
  toRlS := R.toRlS.step f k am dom src hl
  elen := R.elen
  slot := fun i m h => by
    obtain ⟨v, h1, h2⟩ := R.slot i m h
    exact ⟨v, h1, h2.step f fun p hp => ks p i hp⟩

/-- something new is laid: frozen at once, or a container that nobody has yet -/
structure Al (S S' : Wd) : Prop where
  am : S'.am = S.am
  old : ∀ a o, S.H a = some o → S'.H a = some o ∧ S'.ow a = S.ow a
  new : ∀ a, S.H a = none → S'.ow a = none ∨ S'.ow a = some .tmp
  dom : ∀ a, S'.ow a ≠ none → S'.H a ≠ none
  hl : HL S'.H
theorem Al.fr (h : Al S S') : Fr S S' := ⟨fun a o h1 h2 => ⟨(h.old a o h1).1, by rw [(h.old a o h1).2, h2]⟩, [], by rw [h.am, List.append_nil]⟩
theorem Al.at (h : Al S S') (dom : ∀ a, S.ow a ≠ none → S.H a ≠ none) {p : Addr} {q : Pl} (hp : S.ow p = some q) : S'.H p = S.H p ∧ S'.ow p = some q := by
  have h1 := dom p (by rw [hp]; simp)
  cases e : S.H p with
  | none => exact absurd e h1
  | some o => exact ⟨(h.old p o e).1, by rw [(h.old p o e).2, hp]⟩
theorem Al.rl (h : Al S S') (R : Rl c S e s σ) : Rl c S' e s σ := R.step h.fr (fun p q n hp _ => h.at R.dom hp) (fun p i hp => h.at R.dom hp) h.am h.dom (fun a q n h1 h2 => by
    cases e : S.H a with
    | none =>
      rcases h.new a e with z | z
      · rw [z] at h1; cases h1
      · rw [z] at h1; cases h1; cases h2
    | some o => exact R.src a q n (by rw [← (h.old a o e).2]; exact h1) h2) h.hl
theorem Al.ste (h : Al S S') (dom : ∀ a, S.ow a ≠ none → S.H a ≠ none) (s : Store) : StE S S' s s where
  toFr := h.fr
  ver := VerS.refl s
  ent := fun n e _ _ a p hp _ => h.at dom hp
  oth := fun a hp => h.at dom hp
  slot := fun a i hp => ⟨(h.at dom hp).1, .inl (h.at dom hp).2⟩
theorem Al.refl (R : RlS c S s) : Al S S := ⟨rfl, fun _ _ h => ⟨h, rfl⟩, fun a h => .inl (by
  cases e : S.ow a with
  | none => rfl
  | some q => exact absurd h (R.dom a (by rw [e]; simp))), R.dom, R.hl⟩
theorem StE.trans {S2 : Wd} {s1 s2 : Store} (dom : ∀ a, S.ow a ≠ none → S.H a ≠ none) (a : StE S S1 s s1) (b : StE S1 S2 s1 s2) : StE S S2 s s2 where
  toStC := a.toStC.trans b.toStC
  slot := fun p i hp => by
    obtain ⟨x1, x2⟩ := a.slot p i hp
    rcases x2 with x2 | x2
    · obtain ⟨y1, y2⟩ := b.slot p i x2
      exact ⟨y1.trans x1, y2⟩
    · cases e : S.H p with
      | none => exact absurd e (dom p (by rw [hp]; simp))
      | some o =>
        have h1 : S1.H p = some o := x1.trans e
        obtain ⟨y1, y2⟩ := b.keep p o h1 x2
        exact ⟨y1, .inr y2⟩

/-! ### ownership alone is changed -/
/-- p is q's now -/
def Wd.lab (S : Wd) (p : Addr) (q : Option Pl) : Wd := { S with ow := fun a => if a = p then q else S.ow a }
theorem lab_same {p : Addr} {q : Option Pl} : (S.lab p q).ow p = q := if_pos rfl
theorem lab_ne {p a : Addr} {q : Option Pl} (h : a ≠ p) : (S.lab p q).ow a = S.ow a := if_neg h
/-- a container of one's own is frozen -/
theorem lab_fr {p : Addr} {q : Option Pl} (h : S.ow p ≠ none) : Fr S (S.lab p q) := ⟨fun a o h1 h2 => ⟨h1, by
  rw [lab_ne (fun z => h (by rw [← z]; exact h2))]
  exact h2⟩, [], by simp [Wd.lab]⟩
theorem lab_dom {p : Addr} {q : Option Pl} (dom : ∀ a, S.ow a ≠ none → S.H a ≠ none) (h : S.ow p ≠ none) : ∀ a, (S.lab p q).ow a ≠ none → (S.lab p q).H a ≠ none := fun a ha => by
  by_cases e : a = p
  · subst e; exact dom _ h
  · rw [lab_ne e] at ha; exact dom _ ha
theorem lab_src {p : Addr} {q : Option Pl} (src : ∀ a x n, S.ow a = some x → x.src = some n → n < s.length) (h : ∀ x, q = some x → x.src = none) : ∀ a x n, (S.lab p q).ow a = some x → x.src = some n → n < s.length := fun a x n h1 h2 => by
  by_cases z : a = p
  · subst z
    rw [lab_same] at h1
    rw [h x h1] at h2
    cases h2
  · rw [lab_ne z] at h1
    exact src a x n h1 h2
/-- the tmp at p becomes frozen, or another's -/
theorem lab_tmp {p : Addr} {q : Option Pl} (R : Rl c S e s σ) (h : S.ow p = some .tmp) (hq : ∀ x, q = some x → x.src = none := by intro x hx; cases hx <;> rfl) : Rl c (S.lab p q) e s σ :=
  have ne : ∀ {a : Addr} {x : Pl}, S.ow a = some x → x ≠ .tmp → a ≠ p := fun h1 h2 z => by subst z; rw [h] at h1; cases h1; exact h2 rfl
  R.step (lab_fr (by rw [h]; simp)) (fun a x n hx hn => ⟨rfl, by rw [lab_ne (ne hx (fun z => by subst z; cases hn))]; exact hx⟩) (fun a i hx => ⟨rfl, by rw [lab_ne (ne hx (by simp))]; exact hx⟩) rfl (lab_dom R.dom (by rw [h]; simp)) (lab_src R.src hq) R.hl
/-- where a slot's container stands -/
theorem slot_of {i : Nat} {m : M} (R : Rl c S e s σ) (h : e[i]? = some (some m)) : ∃ v, σ[i]? = some (some v) ∧ RepM c S (.slot i) m v := R.slot i m h
/-- the slot's container is frozen in its place -/
theorem Rl.frzSlot {i : Nat} {m : M} {v : V} (R : Rl c S e s σ) (hm : m.isVal = false) (hv : σ[i]? = some (some v)) (h : RepM c S (.slot i) m v) (hi : i < e.length) :
    ∃ S', Rl c S' (e.set i (some (.val m.frz))) s σ ∧ S'.H = S.H ∧ RepD c S' m.frz v ∧ StE S S' s s := by
  have main : ∀ p, S.ow p = some (.slot i) → (RepD c (S.lab p none) m.frz v) → Rl c (S.lab p none) (e.set i (some (.val m.frz))) s σ ∧ StE S (S.lab p none) s s := fun p hp hd => by
    have fr : Fr S (S.lab p none) := lab_fr (by rw [hp]; simp)
    have ne : ∀ {a : Addr} {x : Pl}, S.ow a = some x → x ≠ .slot i → a ≠ p := fun h1 h2 z => by subst z; rw [hp] at h1; cases h1; exact h2 rfl
    refine ⟨⟨R.toRlS.step fr (fun a x n hx hn => ⟨rfl, by rw [lab_ne (ne hx (fun z => by subst z; cases hn))]; exact hx⟩) rfl (lab_dom R.dom (by rw [hp]; simp)) (lab_src R.src (by intro x hx; cases hx)) R.hl, by rw [List.length_set]; exact R.elen, fun j m' hj => ?_⟩, ?_⟩
    · by_cases z : i = j
      · subst z
        rw [List.getElem?_set_self hi] at hj
        cases hj
        exact ⟨v, hv, hd⟩
      · rw [List.getElem?_set_ne z] at hj
        obtain ⟨v', h1, h2⟩ := R.slot j m' hj
        exact ⟨v', h1, h2.step fr fun a ha => ⟨rfl, by rw [lab_ne (ne ha (fun w => z (by cases w; rfl)))]; exact ha⟩⟩
    · refine ⟨⟨fr, VerS.refl s, fun n en _ _ a x hx hn => ⟨rfl, by rw [lab_ne (ne hx (fun z => by subst z; cases hn))]; exact hx⟩, fun a hx => ⟨rfl, by rw [lab_ne (ne hx (by simp))]; exact hx⟩⟩, fun a j hx => ⟨rfl, ?_⟩⟩
      by_cases z : a = p
      · subst z; exact .inr lab_same
      · exact .inl (by rw [lab_ne z]; exact hx)
  cases m with
  | val d => cases hm
  | ol xs =>
    obtain ⟨p, vs, e1, h1, h2, h3⟩ := h
    have hd : RepD c (S.lab p none) (.lst xs) v := ⟨p, vs, e1, h1, lab_same, h3.mono (lab_fr (by rw [h2]; simp))⟩
    obtain ⟨x, y⟩ := main p h2 hd
    exact ⟨S.lab p none, x, rfl, hd, y⟩
  | od t kvs =>
    obtain ⟨p, vs, e1, h1, h2, h3⟩ := h
    have hd : RepD c (S.lab p none) (.dic t kvs) v := ⟨p, vs, e1, h1, lab_same, h3.mono (lab_fr (by rw [h2]; simp))⟩
    obtain ⟨x, y⟩ := main p h2 hd
    exact ⟨S.lab p none, x, rfl, hd, y⟩

/-! ### reading -/
/-- what stands in the store behind a loc -/
theorem Rl.locs {n : Nat} {a : Addr} {en : Ent} (R : RlS c S s) (ha : S.am[n]? = some a) (he : s[n]? = some en) : S.ow a = some (.obj n) ∧ RepO c S n a en.o := by
  obtain ⟨b, h1, h2, h3⟩ := R.obj n en he
  rw [ha] at h1
  cases h1
  exact ⟨h2, h3⟩
theorem bw_view {m : M} {pl : Pl} {v : V} (R : RlS c S s) (h : RepM c S pl m v) : RepV c S (bw m pl s).1 v := by
  cases m with
  | val d =>
    cases d with
    | loc n =>
      obtain ⟨a, e1, ha⟩ := h
      unfold bw
      dsimp only
      split
      · rename_i xs w he
        obtain ⟨_, vs, h1, h2⟩ := Rl.locs R ha he
        exact ⟨a, vs, e1, h1, h2⟩
      · rename_i t kvs w he
        obtain ⟨_, vs, h1, h2⟩ := Rl.locs R ha he
        exact ⟨a, vs, e1, h1, h2⟩
      · exact ⟨a, e1, ha⟩
    | _ => exact h
  | ol xs => exact RepM.view h
  | od t kvs => exact RepM.view h
theorem bw_at {p : Addr} {pl : Pl} (R : RlS c S s) (h2 : S.ow p = some pl) (hp : pl ≠ .tmp) (st : StE S S' s s') (k : same pl.src s s' = true) : S'.H p = S.H p := by
  have main : ∀ n, pl.src = some n → S'.H p = S.H p := fun n hn => by
    have hlt := R.src p pl n h2 hn
    rw [hn] at k
    have k' : s[n]? = s'[n]? := of_decide_eq_true k
    have he := List.getElem?_eq_getElem hlt
    exact (st.ent n _ he (k' ▸ he) p _ h2 hn).1
  cases pl with
  | slot i => exact (st.slot p i h2).1
  | tmp => exact absurd rfl hp
  | fld n g => exact main n rfl
  | obj n => exact main n rfl
  | oth => exact (st.oth p h2).1
/-- what was read may still be read behind a step that left its object alone -/
theorem bw_keep {m : M} {pl : Pl} {v : V} (R : RlS c S s) (h : RepM c S pl m v) (hp : pl ≠ .tmp) (st : StE S S' s s') (k : same (bw m pl s).2 s s' = true) : RepV c S' (bw m pl s).1 v := by
  have f := st.toFr
  cases m with
  | val d =>
    cases d with
    | loc n =>
      obtain ⟨a, e1, ha⟩ := h
      unfold bw at k ⊢
      dsimp only at k ⊢
      split at k
      · rename_i xs w he
        obtain ⟨h0, vs, h1, h2⟩ := Rl.locs R ha he
        have k' : s[n]? = s'[n]? := of_decide_eq_true k
        obtain ⟨x1, x2⟩ := st.ent n _ he (k' ▸ he) a _ h0 rfl
        exact ⟨a, vs, e1, by rw [x1]; exact h1, h2.mono f⟩
      · rename_i t kvs w he
        obtain ⟨h0, vs, h1, h2⟩ := Rl.locs R ha he
        have k' : s[n]? = s'[n]? := of_decide_eq_true k
        obtain ⟨x1, x2⟩ := st.ent n _ he (k' ▸ he) a _ h0 rfl
        exact ⟨a, vs, e1, by rw [x1]; exact h1, h2.mono f⟩
      · exact ⟨a, e1, f.amAt ha⟩
    | _ => exact RepD.mono f h
  | ol xs =>
    obtain ⟨p, vs, e1, h1, h2, h3⟩ := h
    exact ⟨p, vs, e1, by rw [bw_at R h2 hp st k]; exact h1, h3.mono f⟩
  | od t kvs =>
    obtain ⟨p, vs, e1, h1, h2, h3⟩ := h
    exact ⟨p, vs, e1, by rw [bw_at R h2 hp st k]; exact h1, h3.mono f⟩
/-- a tmp gets another label that is nobody's slot or field -/
theorem lab_ste {p : Addr} {q : Option Pl} (h : S.ow p = some .tmp) : StE S (S.lab p q) s s :=
  have ne : ∀ {a : Addr} {x : Pl}, S.ow a = some x → x ≠ .tmp → a ≠ p := fun h1 h2 z => by subst z; rw [h] at h1; cases h1; exact h2 rfl
  ⟨⟨lab_fr (by rw [h]; simp), VerS.refl s, fun n en _ _ a x hx hn => ⟨rfl, by rw [lab_ne (ne hx (fun z => by subst z; cases hn))]; exact hx⟩, fun a hx => ⟨rfl, by rw [lab_ne (ne hx (by simp))]; exact hx⟩⟩,
    fun a j hx => ⟨rfl, .inl (by rw [lab_ne (ne hx (by simp))]; exact hx)⟩⟩
/-- what was reckoned waits: it is no tmp any more -/
theorem pend {m : M} {pl : Pl} {v : V} (R : Rl c S e s σ) (h : RepM c S pl m v) : ∃ S' pl', Rl c S' e s σ ∧ S'.H = S.H ∧ S'.am = S.am ∧ RepM c S' pl' m v ∧ pl' ≠ .tmp ∧ bw m pl' s = bw m pl s ∧ wk m pl' s = wk m pl s ∧ StE S S' s s := by
  by_cases hp : pl = .tmp
  · subst hp
    have main : ∀ p, S.ow p = some .tmp → RepM c (S.lab p (some .oth)) .oth m v → bw m .oth s = bw m .tmp s → wk m .oth s = wk m .tmp s → ∃ S' pl', Rl c S' e s σ ∧ S'.H = S.H ∧ S'.am = S.am ∧ RepM c S' pl' m v ∧ pl' ≠ .tmp ∧ bw m pl' s = bw m .tmp s ∧ wk m pl' s = wk m .tmp s ∧ StE S S' s s := fun p h1 h2 h3 h4 =>
      ⟨_, .oth, lab_tmp R h1, rfl, rfl, h2, by simp, h3, h4, lab_ste h1⟩
    cases m with
    | val d => exact ⟨S, .oth, R, rfl, rfl, h, by simp, rfl, rfl, StE.refl S s⟩
    | ol xs =>
      obtain ⟨p, vs, e1, h1, h2, h3⟩ := h
      exact main p h2 ⟨p, vs, e1, h1, lab_same, h3.mono (lab_fr (by rw [h2]; simp))⟩ rfl rfl
    | od t kvs =>
      obtain ⟨p, vs, e1, h1, h2, h3⟩ := h
      exact main p h2 ⟨p, vs, e1, h1, lab_same, h3.mono (lab_fr (by rw [h2]; simp))⟩ rfl rfl
  · exact ⟨S, pl, R, rfl, rfl, h, hp, rfl, rfl, StE.refl S s⟩
/-- a result that is data from now on -/
theorem frz_ste {m : M} {v : V} (R : Rl c S e s σ) (h : RepM c S .tmp m v) : ∃ S', Rl c S' e s σ ∧ S'.H = S.H ∧ RepD c S' m.frz v ∧ StE S S' s s := by
  cases m with
  | val d => exact ⟨S, R, rfl, h, StE.refl S s⟩
  | ol xs =>
    obtain ⟨p, vs, e1, h1, h2, h3⟩ := h
    exact ⟨_, lab_tmp (q := none) R h2, rfl, ⟨p, vs, e1, h1, lab_same, h3.mono (lab_fr (by rw [h2]; simp))⟩, lab_ste h2⟩
  | od t kvs =>
    obtain ⟨p, vs, e1, h1, h2, h3⟩ := h
    exact ⟨_, lab_tmp (q := none) R h2, rfl, ⟨p, vs, e1, h1, lab_same, h3.mono (lab_fr (by rw [h2]; simp))⟩, lab_ste h2⟩
end OI

/-! OIc: OI's run as a reading of the hand layer; the lifts of its rules. -/
namespace OI
open PySem PySem.Spec PyProof.Rows L2

def PostG {α β : Type} (c : Cn) (W : WX) (σ : L2.St) (S : Wd) (s : Store) (r : Res α) (rep : Wd → Store → α → β → Prop) (Q : β → Hp → Prop) : Prop :=
  match r with
  | .ok x e' s' => ∀ S' y, Rl c S' e' s' σ → StE S S' s s' → rep S' s' x y → Q y S'.H
  | .err k e' s' => ∀ S', Rl c S' e' s' σ → StE S S' s s' → W (.ref (c.cls k)) none σ S'.H
  | .bad => False
/-- where a value stands -/
def PlOk (σ : L2.St) (S : Wd) (pl : Pl) (v : V) : Prop :=
  match pl with
  | .slot i => σ[i]? = some (some v)
  | .fld n f => ∃ a C dx fs, S.am[n]? = some a ∧ S.H a = some (.ins C dx fs) ∧ fs.lookup (Str.ofString f) = some v
  | .tmp => True
  | _ => False
abbrev rM (c : Cn) (σ : L2.St) : Wd → Store → M × Pl → V → Prop := fun S _ x v => RepM c S x.2 x.1 v ∧ PlOk σ S x.2 v
abbrev rD (c : Cn) : Wd → Store → D → V → Prop := fun S _ d v => RepD c S d v
abbrev rDs (c : Cn) : Wd → Store → List D → List V → Prop := fun S _ d v => RepDs c S d v
abbrev rB : Wd → Store → Bool → Bool → Prop := fun _ _ a b => a = b

/-- the reading: from some state of OI that lies in the heap its run goes on -/
def tG {α β : Type} (c : Cn) (W : WX) (f : Env → Store → Res α) (rep : L2.St → Wd → Store → α → β → Prop) : L2.St → Hp → (β → Hp → Prop) → Prop := fun σ H Q =>
  ∃ S e s, S.H = H ∧ Rl c S e s σ ∧ PostG c W σ S s (f e s) (rep σ) Q
def tE (c : Cn) (W : WX) (f : Env → Store → Res (M × Pl)) : TE := tG c W f (rM c)
def tT (c : Cn) (W : WX) (f : Env → Store → Res (M × Pl)) : TT := tG c W (testB f) fun _ => rB
def tA (c : Cn) (W : WX) (f : Env → Store → Res (List D)) : TA := tG c W f fun _ => rDs c

section
variable {c : Cn} {W : WX} {σ : L2.St} {S : Wd} {s : Store} {e : Env}
theorem PostG.shift {α β : Type} {r : Res α} {rep : Wd → Store → α → β → Prop} {Q : β → Hp → Prop} {S1 : Wd} {s1 : Store} (R : RlS c S s) (st : StE S S1 s s1) (h : PostG c W σ S s r rep Q) : PostG c W σ S1 s1 r rep Q := by
  cases r with
  | ok x e' s' => exact fun S' y R' st' rp => h S' y R' (st.trans R.dom st') rp
  | err k e' s' => exact fun S' R' st' => h S' R' (st.trans R.dom st')
  | bad => exact h
/-- the first part of a run, then the rest of it -/
theorem PostG.bind {α β γ δ : Type} {r : Res α} {k : α → Env → Store → Res γ} {rep : Wd → Store → α → β → Prop} {rep' : Wd → Store → γ → δ → Prop} {Q : δ → Hp → Prop} {G : β → Hp → Prop} (R : RlS c S s) (h : PostG c W σ S s (r.bind k) rep' Q)
    (g : ∀ x e1 s1 S1 y, r = .ok x e1 s1 → Rl c S1 e1 s1 σ → StE S S1 s s1 → rep S1 s1 x y → PostG c W σ S1 s1 (k x e1 s1) rep' Q → G y S1.H) : PostG c W σ S s r rep G := by
  cases r with
  | ok x e1 s1 => exact fun S1 y R1 st rp => g x e1 s1 S1 y rfl R1 st rp (PostG.shift R st h)
  | err k' e1 s1 => exact h
  | bad => exact h
theorem PostG.mono {α β : Type} {r : Res α} {rep : Wd → Store → α → β → Prop} {Q Q' : β → Hp → Prop} (h : PostG c W σ S s r rep Q) (k : ∀ y H, Q y H → Q' y H) : PostG c W σ S s r rep Q' := by
  cases r with
  | ok x e' s' => exact fun S' y R' st' rp => k _ _ (h S' y R' st' rp)
  | err k e' s' => exact h
  | bad => exact h
end

theorem _root_.L2.PE.weak {X : Cx} {a : Expr} {t u : TE} (h : PE X a u) (k : ∀ σ H Q, t σ H Q → u σ H Q) : PE X a t := ⟨fun pins s σ H Q I q => h.run pins s σ H Q I (k σ H Q q)⟩
theorem _root_.L2.PT.weak {X : Cx} {a : Expr} {t u : TT} (h : PT X a u) (k : ∀ σ H Q, t σ H Q → u σ H Q) : PT X a t := ⟨fun pins s σ H Q I q => h.run pins s σ H Q I (k σ H Q q)⟩
theorem _root_.L2.PA.weak {X : Cx} {a : List Expr} {t u : TA} (h : PA X a u) (k : ∀ σ H Q, t σ H Q → u σ H Q) : PA X a t := ⟨fun pos pins s σ H Q I q => h.run pos pins s σ H Q I (k σ H Q q)⟩

section
variable {X : Cx} {c : Cn} {W : WX}

/-! ### values of what was read -/
/-- the end of an expression that lays something new, or nothing -/
theorem end_al {σ : L2.St} {S S' : Wd} {s : Store} {e : Env} {m : M} {v : V} {Q : VK} (R : Rl c S e s σ) (h : PostG c W σ S s (.ok (m, .tmp) e s) (rM c σ) Q) (al : Al S S') (rp : RepM c S' .tmp m v) : Q v S'.H :=
  h S' v (al.rl R) (al.ste R.dom s) ⟨rp, trivial⟩
theorem end_val {σ : L2.St} {S : Wd} {s : Store} {e : Env} {d : D} {v : V} {Q : VK} (R : Rl c S e s σ) (h : PostG c W σ S s (.ok (.val d, .tmp) e s) (rM c σ) Q) (rp : RepD c S d v) : Q v S.H :=
  end_al R h (Al.refl R.toRlS) rp

/-! ### names, constants -/
theorem s_var {i : Nat} {x : Str} {pos : Pos} {R : Runs} (hN : X.N[i]? = some x) (hv : Vis X.env.scope x) (hd : (x == ("__debug__" : Str)) = false) (hcd : (x == ("__classdict__" : Str)) = false) : PE X (.Name x pos) (tE c W (ev R (.var i))) := by
  refine (pe_var hN hv hd hcd).weak fun σ H Q q => ?_
  obtain ⟨S, e, s, rfl, Rr, p⟩ := q
  replace p : PostG c W σ S s (varK e[i]? i e s) (rM c σ) Q := p
  unfold varK at p
  split at p
  · rename_i m hm
    obtain ⟨v, h1, h2⟩ := Rr.slot i m hm
    exact ⟨v, h1, p S v Rr (StE.refl S s) ⟨h2, h1⟩⟩
  · exact p.elim
theorem s_cst_int {i : Int} {j pos} {R : Runs} : PE X (.Constant (.int i) j pos) (tE c W (ev R (.cst (.int i)))) :=
  pe_int.weak fun σ H Q q => by
    obtain ⟨S, e, s, rfl, Rr, p⟩ := q
    exact end_val Rr p rfl
theorem s_cst_bl {i : Bool} {j pos} {R : Runs} : PE X (.Constant (.bool i) j pos) (tE c W (ev R (.cst (.bl i)))) :=
  pe_bl.weak fun σ H Q q => by
    obtain ⟨S, e, s, rfl, Rr, p⟩ := q
    exact end_val Rr p rfl
theorem s_cst_str {i : Str} {j pos} {R : Runs} : PE X (.Constant (.str i) j pos) (tE c W (ev R (.cst (.str i)))) :=
  pe_str.weak fun σ H Q q => by
    obtain ⟨S, e, s, rfl, Rr, p⟩ := q
    exact end_val Rr p rfl
theorem s_cst_non {j pos} {R : Runs} : PE X (.Constant .none j pos) (tE c W (ev R (.cst .non))) :=
  pe_non.weak fun σ H Q q => by
    obtain ⟨S, e, s, rfl, Rr, p⟩ := q
    exact end_val Rr p rfl
/-- a module's constant -/
def GlobOk (c : Cn) (mg : Str → Option Value) (x : String) (d : D) : Prop := ∃ v u, mg (Str.ofString x) = some u ∧ RelV v u ∧ ∀ S, RepD c S d v
theorem s_glob {x : String} {d : D} {pos : Pos} {R : Runs} (hg : Gl X (Str.ofString x)) (h : GlobOk c X.mg x d) (hd : (Str.ofString x == ("__debug__" : Str)) = false) : PE X (.Name (Str.ofString x) pos) (tE c W (ev R (.glob x d))) := by
  obtain ⟨v, u, h1, h2, h3⟩ := h
  exact (pe_glob hg h1 h2 hd).weak fun σ H Q q => by
    obtain ⟨S, e, s, rfl, Rr, p⟩ := q
    exact end_val Rr p (h3 S)

/-! ### two operands -/
/-- by values: what a value-level rule is asked, from what OI knows of two things read -/
def R2of (c : Cn) (k : M → M → Option M) : R2 := fun x y H Q => ∃ S s m1 m2 m, S.H = H ∧ RlS c S s ∧ RepV c S m1 x ∧ RepV c S m2 y ∧ k m1 m2 = some m ∧ ∀ S' v, Al S S' → RepM c S' .tmp m v → Q v S'.H
theorem two_ok {fa fb : Env → Store → Res (M × Pl)} {k : M → M → Env → Store → Res (M × Pl)} {σ : L2.St} {H : Hp} {Q : VK} {rest : V → V → Hp → Prop} (h : tE c W (two fa fb k) σ H Q)
    (hr : ∀ S e s m1 m2 x y, Rl c S e s σ → RepV c S m1 x → RepV c S m2 y → PostG c W σ S s (k m1 m2 e s) (rM c σ) Q → rest x y S.H) :
    tE c W fa σ H fun x H1 => tE c W fb σ H1 fun y H2 => rest x y H2 := by
  obtain ⟨S, e, s, rfl, Rr, p⟩ := h
  refine ⟨S, e, s, rfl, Rr, PostG.bind Rr.toRlS p fun x1 e1 s1 S1 v1 q1 R1 st1 rp1 p1 => ?_⟩
  obtain ⟨S1', pl', R1', hH, ham, rp1', hpl, hbw, _, st1'⟩ := pend R1 rp1.1
  replace p1 := PostG.shift R1.toRlS st1' p1
  refine ⟨S1', e1, s1, hH, R1', PostG.bind R1'.toRlS p1 fun x2 e2 s2 S2 v2 q2 R2 st2 rp2 p2 => ?_⟩
  split at p2
  · rename_i hs
    rw [← hbw] at hs p2
    exact hr S2 e2 s2 _ _ v1 v2 R2 (bw_keep R1'.toRlS rp1' hpl st2 hs) (bw_view R2.toRlS rp2.1) p2
  · exact p2.elim
theorem out_ok {o : Option M} {σ : L2.St} {S : Wd} {s : Store} {e : Env} {Q : VK} (h : PostG c W σ S s (out o e s) (rM c σ) Q) : ∃ m, o = some m ∧ PostG c W σ S s (.ok (m, .tmp) e s) (rM c σ) Q := by
  unfold out at h
  split at h
  · exact ⟨_, rfl, h⟩
  · exact h.elim
theorem outB_ok {o : Option Bool} {σ : L2.St} {S : Wd} {s : Store} {e : Env} {Q : VK} (h : PostG c W σ S s (outB o e s) (rM c σ) Q) : ∃ m, o = some m ∧ PostG c W σ S s (.ok (.val (.bl m), .tmp) e s) (rM c σ) Q := by
  unfold outB at h
  split at h
  · exact ⟨_, rfl, h⟩
  · exact h.elim
theorem two_R2 {fa fb : Env → Store → Res (M × Pl)} {k : M → M → Option M} {σ : L2.St} {H : Hp} {Q : VK} (h : tE c W (two fa fb fun x y => out (k x y)) σ H Q) :
    tOp (R2of c k) (tE c W fa) (tE c W fb) σ H Q :=
  two_ok h fun S e s m1 m2 x y Rr r1 r2 p => by
    obtain ⟨m, hm, p⟩ := out_ok p
    exact ⟨S, s, m1, m2, m, rfl, Rr.toRlS, r1, r2, hm, fun S' v al rp => end_al Rr p al rp⟩
theorem s_bin {op : BOp} {o : Operator} {a b : Expr} {ia ib : IE} {pos : Pos} {R : Runs} (ho : OpR X (binaryOp o) (R2of c (bin op))) (ha : PE X a (tE c W (ev R ia))) (hb : PE X b (tE c W (ev R ib))) : PE X (.BinOp a o b pos) (tE c W (ev R (.bin op ia ib))) :=
  (pe_op ho ha hb).weak fun σ H Q q => two_R2 q
end
end OI

/-! OId: the operations by values. -/
namespace OI
open PySem PySem.Spec PyProof.Rows L2

/-- an object is laid at a new place -/
def Wd.put (S : Wd) (p : Addr) (o : HO) (q : Option Pl) : Wd := ⟨S.am, fun a => if a = p then q else S.ow a, upd S.H p o⟩
def HLo (o : HO) : Prop := (∀ xs, o = .lst xs → xs.length ≤ 16777216) ∧ (∀ xs, o = .tup xs → xs.length ≤ 16777216) ∧ (∀ xs, o = .dK xs → xs.length ≤ 16777216) ∧ ∀ ob u, o ≠ .frz ob u
theorem HLo.lst {xs : List V} (h : xs.length ≤ 16777216) : HLo (.lst xs) := ⟨fun _ e => (by cases e; exact h), fun _ e => (by cases e), fun _ e => (by cases e), fun _ _ e => (by cases e)⟩
theorem HLo.tup {xs : List V} (h : xs.length ≤ 16777216) : HLo (.tup xs) := ⟨fun _ e => (by cases e), fun _ e => (by cases e; exact h), fun _ e => (by cases e), fun _ _ e => (by cases e)⟩
theorem HL.put {H : Hp} (h : HL H) {p : Addr} {o : HO} (ho : HLo o) : HL (upd H p o) := fun a => by
  by_cases z : a = p
  · subst z
    rw [upd_same]
    exact ⟨fun xs e => ho.1 xs (Option.some.inj e), fun xs e => ho.2.1 xs (Option.some.inj e), fun xs e => ho.2.2.1 xs (Option.some.inj e)⟩
  · rw [upd_ne z]
    exact h a
variable {c : Cn} {S : Wd} {s : Store}
theorem put_ow {p : Addr} {o : HO} {q : Option Pl} : (S.put p o q).ow p = q := if_pos rfl
theorem put_H {p : Addr} {o : HO} {q : Option Pl} : (S.put p o q).H p = some o := upd_same
theorem Al.lay (R : RlS c S s) {p : Addr} {o : HO} {q : Option Pl} (hp : S.H p = none) (hq : q = none ∨ q = some .tmp) (ho : HLo o) : Al S (S.put p o q) where
  am := rfl
  old := fun a u e => ⟨by
    show upd S.H p o a = _
    rw [upd_ne (ne_of_none e hp)]; exact e, if_neg (ne_of_none e hp)⟩
  new := fun a e => by
    by_cases z : a = p
    · subst z
      rw [put_ow]
      exact hq
    · have e2 : (S.put p o q).ow a = S.ow a := if_neg z
      rw [e2]
      cases w : S.ow a with
      | none => exact .inl rfl
      | some x => exact absurd e (R.dom a (by rw [w]; simp))
  dom := fun a e => by
    by_cases z : a = p
    · subst z
      rw [put_H]; simp
    · have e2 : (S.put p o q).ow a = S.ow a := if_neg z
      rw [e2] at e
      show upd S.H p o a ≠ none
      rw [upd_ne z]
      exact R.dom a e
  hl := R.hl.put ho
/-- a new list of one's own, a new tuple -/
theorem new_lst (R : RlS c S s) {p : Addr} {vs : List V} {ds : List D} (hp : S.H p = none) (r : RepDs c S ds vs) (hl : vs.length ≤ 16777216) : ∃ S', Al S S' ∧ S'.H = upd S.H p (.lst vs) ∧ RepM c S' .tmp (.ol ds) (.ref p) :=
  have al := Al.lay R (q := some .tmp) hp (.inr rfl) (HLo.lst hl)
  ⟨_, al, rfl, p, vs, rfl, put_H, put_ow, r.mono al.fr⟩
theorem new_tup (R : RlS c S s) {p : Addr} {vs : List V} {ds : List D} (hp : S.H p = none) (r : RepDs c S ds vs) (hl : vs.length ≤ 16777216) : ∃ S', Al S S' ∧ S'.H = upd S.H p (.tup vs) ∧ RepM c S' .tmp (.val (.tup ds)) (.ref p) :=
  have al := Al.lay R (q := none) hp (.inl rfl) (HLo.tup hl)
  ⟨_, al, rfl, p, vs, rfl, .inl ⟨.inl put_H, put_ow⟩, r.mono al.fr⟩

/-- what a list is, whose ever -/
theorem lst1_of {m : M} {v : V} {ds : List D} (h : m.lst1? = some ds) (r : RepV c S m v) : ∃ p vs, v = .ref p ∧ S.H p = some (.lst vs) ∧ RepDs c S ds vs := by
  cases m with
  | val d =>
    cases d with
    | lst xs =>
      cases h
      obtain ⟨p, vs, e, h1, _, h2⟩ := r
      exact ⟨p, vs, e, h1, h2⟩
    | _ => cases h
  | ol xs =>
    cases h
    exact r
  | od t kvs => cases h
theorem lst_of {m : M} {v : V} {ds : List D} (h : m.lst? = some ds) (r : RepV c S m v) : ∃ p vs, v = .ref p ∧ SqL c.K S.H p vs ∧ RepDs c S ds vs := by
  cases m with
  | val d =>
    cases d with
    | lst xs =>
      cases h
      obtain ⟨p, vs, e, h1, _, h2⟩ := r
      exact ⟨p, vs, e, SqL.of h1, h2⟩
    | scr ns =>
      cases h
      obtain ⟨p, e, h1⟩ := r
      exact ⟨p, _, e, h1.sq, RepDs.ints ns⟩
    | _ => cases h
  | ol xs =>
    cases h
    obtain ⟨p, vs, e, h1, h2⟩ := r
    exact ⟨p, vs, e, SqL.of h1, h2⟩
  | od t kvs => cases h
theorem seq_of {m : M} {v : V} {ds : List D} (h : m.seq? = some ds) (r : RepV c S m v) : ∃ p vs, v = .ref p ∧ (SqL c.K S.H p vs ∨ SqT c.K S.H p vs) ∧ RepDs c S ds vs := by
  have other : m.lst? = some ds → ∃ p vs, v = .ref p ∧ (SqL c.K S.H p vs ∨ SqT c.K S.H p vs) ∧ RepDs c S ds vs := fun h => by
    obtain ⟨p, vs, e, h1, h2⟩ := lst_of h r
    exact ⟨p, vs, e, .inl h1, h2⟩
  cases m with
  | val d =>
    cases d with
    | tup xs =>
      cases h
      obtain ⟨p, vs, e, h1, h2⟩ := r
      exact ⟨p, vs, e, .inr h1.sq, h2⟩
    | _ => exact other h
  | _ => exact other h
theorem len_le {X : Cx} {pins : List (Addr × Obj)} {σ : L2.St} {sh : Shared} (I : Inv X pins σ S.H sh) (hK : X.K = c.K) {p : Addr} {vs : List V} (h : SqL c.K S.H p vs ∨ SqT c.K S.H p vs) : vs.length ≤ 16777216 := by
  rw [← hK] at h
  rcases h with h | h
  · obtain ⟨its, _, _, hz⟩ := I.list h
    rw [sizeLine_eq] at hz
    exact hz
  · obtain ⟨its, _, _, hz⟩ := I.tuple h
    rw [sizeLine_eq] at hz
    exact hz

/-- two ints -/
theorem intM_of {f : Int → Int → Option Int} {m1 m2 m : M} {x y : V} (h : intM f m1 m2 = some m) (r1 : RepV c S m1 x) (r2 : RepV c S m2 y) : ∃ i j k, x = .int i ∧ y = .int j ∧ f i j = some k ∧ m = .val (.int k) := by
  unfold intM at h
  split at h
  · rename_i i j
    cases e : f i j with
    | none => rw [e] at h; cases h
    | some k =>
      rw [e] at h
      cases h
      exact ⟨i, j, k, r1, r2, e, rfl⟩
  · cases h
section
variable {X : Cx}
theorem v_int {g : Value → Value → Sem Value} {f : Int → Int → Option Int} {C : Int → Int → Prop} {k : Int → Int → Int} (h : OpR X g (rI C fun i j => .int (k i j))) (hf : ∀ i j z, f i j = some z → C i j ∧ z = k i j) : OpR X g (R2of c (intM f)) := by
  intro pins s σ H x y v u Q I rx ry h1
  obtain ⟨S, st, m1, m2, m, rfl, R, r1, r2, hm, q⟩ := h1
  obtain ⟨i, j, z, rfl, rfl, hz, rfl⟩ := intM_of hm r1 r2
  obtain ⟨hc, rfl⟩ := hf i j z hz
  exact h pins s σ S.H _ _ v u Q I rx ry ⟨i, j, rfl, rfl, hc, q S _ (Al.refl R) rfl⟩
theorem rI_of {g : Value → Value → Sem Value} {k : Int → Int → Int} (h : OpR X g (rI0 fun i j => .int (k i j))) : OpR X g (rI (fun _ _ => True) fun i j => .int (k i j)) := fun pins s σ H x y v u Q I rx ry q => by
  obtain ⟨i, j, e1, e2, _, q⟩ := q
  exact h pins s σ H x y v u Q I rx ry ⟨i, j, e1, e2, q⟩
theorem v_sub : OpR X (binaryOp .Sub) (R2of c (bin .sub)) := v_int (rI_of op_sub) fun i j z h => ⟨trivial, (Option.some.inj h).symm⟩
theorem v_fdiv : OpR X (binaryOp .FloorDiv) (R2of c (bin .fdiv)) := v_int op_fdivW fun i j z h => by
  split at h
  · rename_i hc
    exact ⟨hc, (Option.some.inj h).symm⟩
  · cases h
theorem v_mod : OpR X (binaryOp .Mod) (R2of c (bin .mod)) := v_int op_mod fun i j z h => by
  split at h
  · rename_i hc
    exact ⟨hc, (Option.some.inj h).symm⟩
  · cases h
theorem v_pow : OpR X (binaryOp .Pow) (R2of c (bin .pow)) := v_int op_pow fun i j z h => by
  split at h
  · rename_i hc
    exact ⟨hc, (Option.some.inj h).symm⟩
  · cases h
theorem lim_le {n : Nat} (h : n ≤ LIM) : n ≤ sizeLine := by
  rw [sizeLine_eq]
  exact h
theorem v_add (hK : X.K = c.K) : OpR X (binaryOp .Add) (R2of c (bin .add)) := by
  intro pins s σ H x y v u Q I rx ry h
  obtain ⟨S, st, m1, m2, m, rfl, R, r1, r2, hm, q⟩ := h
  replace hm : addM m1 m2 = some m := hm
  unfold addM at hm
  split at hm
  · cases hm
    cases r1
    cases r2
    exact op_add pins s σ S.H _ _ v u Q I rx ry ⟨_, _, rfl, rfl, q S _ (Al.refl R) rfl⟩
  · split at hm
    · rename_i hl
      cases hm
      cases r1
      cases r2
      exact op_add_str pins s σ S.H _ _ v u Q I rx ry ⟨_, _, rfl, rfl, lim_le hl, q S _ (Al.refl R) rfl⟩
    · cases hm
  · split at hm
    · rename_i xs ys hl
      cases hm
      obtain ⟨p, vs, rfl, h1, h2⟩ := r1
      obtain ⟨p', vs', rfl, h1', h2'⟩ := r2
      have hl' : vs.length + vs'.length ≤ LIM := by rw [h2.length, h2'.length]; exact hl
      refine op_catA pins s σ S.H _ _ v u Q I rx ry ⟨p, p', vs, vs', rfl, rfl, by rw [hK]; exact h1.sq, by rw [hK]; exact h1'.sq, lim_le hl', fun z => ?_, fun z1 z2 => ?_, fun z1 z2 a na => ?_⟩
      · subst z
        have e1 : xs = [] := by
          have := h2.length
          exact List.eq_nil_of_length_eq_zero this.symm
        subst e1
        exact q S _ (Al.refl R) ⟨p', vs', rfl, h1', h2'⟩
      · subst z2
        have e1 : ys = [] := by
          have := h2'.length
          exact List.eq_nil_of_length_eq_zero this.symm
        subst e1
        rw [List.append_nil] at q
        exact q S _ (Al.refl R) ⟨p, vs, rfl, h1, h2⟩
      · obtain ⟨S', al, hH, rp⟩ := new_tup R na (h2.append h2') (by rw [List.length_append]; exact hl')
        have := q S' _ al rp
        rw [hH] at this
        exact this
    · cases hm
  · rename_i m1 m2 _ _ _
    split at hm
    · rename_i xs ys e1 e2
      split at hm
      · rename_i hl
        cases hm
        obtain ⟨p, vs, rfl, h1, h2⟩ := lst1_of e1 r1
        obtain ⟨p', vs', rfl, h1', h2'⟩ := lst1_of e2 r2
        have hl' : vs.length + vs'.length ≤ LIM := by rw [h2.length, h2'.length]; exact hl
        refine op_cat pins s σ S.H _ _ v u Q I rx ry ⟨p, p', vs, vs', rfl, rfl, h1, h1', lim_le hl', fun a na => ?_⟩
        obtain ⟨S', al, hH, rp⟩ := new_lst R na (h2.append h2') (by rw [List.length_append]; exact hl')
        have := q S' _ al rp
        rw [hH] at this
        exact this
      · cases hm
    · cases hm
end
end OI

/-! OIe: comparisons, subscripts by values. -/
namespace OI
open PySem PySem.Spec PyProof.Rows L2
variable {c : Cn} {S : Wd} {s : Store}
/-- a comparison: the heap stays -/
def R2b (c : Cn) (k : M → M → Option Bool) : R2 := fun x y H Q => ∃ S s m1 m2 b, S.H = H ∧ RlS c S s ∧ RepV c S m1 x ∧ RepV c S m2 y ∧ k m1 m2 = some b ∧ Q (.bl b) H

mutual
theorem dp_of (S : Wd) : ∀ {d : D} {v : V}, RepD c S d v → (toPy d).canLay0 = true → Dp c.K S.H v (toPy d)
  | .non, _, h, _ => by cases h; exact .non
  | .bl b, _, h, _ => by cases h; exact .bl b
  | .int i, _, h, _ => by cases h; exact .int i
  | .str x, _, h, _ => by cases h; exact .str x
  | .tup xs, _, ⟨p, vs, e, h1, h2⟩, l => by
    subst e
    exact .tup h1.sq (dps_of S h2 (by simpa [toPy, PyData.canLay0] using l))
  | .lst xs, _, ⟨p, vs, e, h1, _, h2⟩, l => by
    subst e
    exact .lst (SqL.of h1) (dps_of S h2 (by simpa [toPy, PyData.canLay0] using l))
  | .scr ns, _, ⟨p, e, h1⟩, l => by
    subst e
    exact .lst h1.sq (dpi_of ns)
  | .dic _ _, _, _, l => by simp [toPy, PyData.canLay0] at l
  | .loc _, _, _, l => by simp [toPy, PyData.canLay0] at l
  | .exn _, _, _, l => by simp [toPy, PyData.canLay0] at l
  | .lam _ _, _, _, l => by simp [toPy, PyData.canLay0] at l
theorem dps_of (S : Wd) : ∀ {d : List D} {v : List V}, RepDs c S d v → PyData.canLayAll0 (toPys d) = true → DpAll c.K S.H v (toPys d)
  | [], _, h, _ => by rw [show _ = [] from h]; exact .nil
  | d :: ds, _, ⟨v, r, e, h1, h2⟩, l => by
    subst e
    have l' : (toPy d).canLay0 = true ∧ PyData.canLayAll0 (toPys ds) = true := by simpa [toPys, PyData.canLayAll0] using l
    exact .cons (dp_of S h1 l'.1) (dps_of S h2 l'.2)
theorem dpi_of {S : Wd} : ∀ ns : List Int, DpAll c.K S.H (ns.map V.int) (ns.map PyData.int)
  | [] => .nil
  | n :: ns => .cons (.int n) (dpi_of ns)
end
theorem dpv_of {m : M} {v : V} (r : RepV c S m v) (l : (toPy m.frz).canLay0 = true) : Dp c.K S.H v (toPy m.frz) := by
  cases m with
  | val d => exact dp_of S r l
  | ol xs =>
    obtain ⟨p, vs, e, h1, h2⟩ := r
    subst e
    exact .lst (SqL.of h1) (dps_of S h2 (by simpa [M.frz, toPy, PyData.canLay0] using l))
  | od t kvs => simp [M.frz, toPy, PyData.canLay0] at l
theorem frz_str {m : M} {x : Str} {v : V} (h : m.frz = .str x) (r : RepV c S m v) : v = .str x := by
  cases m with
  | val d =>
    have e : d = .str x := h
    subst e
    exact r
  | ol xs => cases h
  | od t kvs => cases h

theorem scal_str (x y : Str) : scal (.str x) (.str y) = true := rfl
section
variable {X : Cx}
theorem eqB_cases {d e : D} {b : Bool} (h : eqB d e = some b) : (∃ x y, d = .str x ∧ e = .str y ∧ b = decide (x = y)) ∨ (cmpOk d e = true ∧ b = eqv d e) := by
  unfold eqB at h
  split at h
  · cases h
    exact .inl ⟨_, _, rfl, rfl, rfl⟩
  · split at h
    · rename_i hc
      cases h
      exact .inr ⟨hc, rfl⟩
    · cases h
theorem v_eq (hK : X.K = c.K) (hu : X.A.units + 64 < cLine) : OpR X (compareOp .Eq) (R2b c (cmp .eq)) := by
  intro pins s σ H x y v u Q I rx ry h
  obtain ⟨S, st, m1, m2, b, rfl, R, r1, r2, hm, q⟩ := h
  rcases eqB_cases hm with ⟨z, w, e1, e2, rfl⟩ | ⟨hc, rfl⟩
  · obtain rfl := frz_str e1 r1
    obtain rfl := frz_str e2 r2
    refine op_eq pins s σ S.H _ _ v u Q I rx ry ⟨rfl, ?_⟩
    rw [show decide (V.str z = V.str w) = decide (z = w) from by rw [decide_eq_decide]; exact ⟨fun h => by cases h; rfl, fun h => by rw [h]⟩]
    exact q
  · unfold cmpOk at hc
    simp only [Bool.and_eq_true, decide_eq_true_eq] at hc
    obtain ⟨⟨l1, l2⟩, l3⟩ := hc
    have d1 := dpv_of r1 l1
    have d2 := dpv_of r2 l2
    rw [← hK] at d1 d2
    obtain ⟨as, g1⟩ := Dp.reads I _ x v d1 rx
    obtain ⟨bs, g2⟩ := Dp.reads I _ y u d2 ry
    exact SeqAt.compareEq_reads g1 g2 l1 l2 (by unfold D.deep at l3; omega) ⟨.bl _, S.H, I, rfl, q⟩
theorem v_ne (hK : X.K = c.K) (hu : X.A.units + 64 < cLine) : OpR X (compareOp .NotEq) (R2b c (cmp .ne)) := by
  intro pins s σ H x y v u Q I rx ry h
  obtain ⟨S, st, m1, m2, b, rfl, R, r1, r2, hm, q⟩ := h
  have hm : (eqB m1.frz m2.frz).map (fun c => !c) = some b := hm
  cases e : eqB m1.frz m2.frz with
  | none => rw [e] at hm; cases hm
  | some b' =>
    rw [e] at hm
    cases hm
    rcases eqB_cases e with ⟨z, w, e1, e2, rfl⟩ | ⟨hc, rfl⟩
    · obtain rfl := frz_str e1 r1
      obtain rfl := frz_str e2 r2
      refine op_ne pins s σ S.H _ _ v u Q I rx ry ⟨rfl, ?_⟩
      rw [show decide (V.str z = V.str w) = decide (z = w) from by rw [decide_eq_decide]; exact ⟨fun h => by cases h; rfl, fun h => by rw [h]⟩]
      exact q
    · unfold cmpOk at hc
      simp only [Bool.and_eq_true, decide_eq_true_eq] at hc
      obtain ⟨⟨l1, l2⟩, l3⟩ := hc
      have d1 := dpv_of r1 l1
      have d2 := dpv_of r2 l2
      rw [← hK] at d1 d2
      obtain ⟨as, g1⟩ := Dp.reads I _ x v d1 rx
      obtain ⟨bs, g2⟩ := Dp.reads I _ y u d2 ry
      exact SeqAt.compareNe_reads g1 g2 l1 l2 (by unfold D.deep at l3; omega) ⟨.bl _, S.H, I, rfl, q⟩
theorem cmpI_of {op : COp} (h1 : op ≠ .eq) (h2 : op ≠ .ne) (h3 : op ≠ .isin) (h4 : op ≠ .nin) {m1 m2 : M} {b : Bool} {x y : V} (h : cmp op m1 m2 = some b) (r1 : RepV c S m1 x) (r2 : RepV c S m2 y) : ∃ i j, x = .int i ∧ y = .int j ∧ cmpI op i j = some b := by
  unfold cmp at h
  split at h <;> first | contradiction | skip
  split at h
  · exact ⟨_, _, r1, r2, h⟩
  · cases h
theorem v_lt : OpR X (compareOp .Lt) (R2b c (cmp .lt)) := by
  intro pins s σ H x y v u Q I rx ry h
  obtain ⟨S, st, m1, m2, b, rfl, R, r1, r2, hm, q⟩ := h
  obtain ⟨i, j, rfl, rfl, e⟩ := cmpI_of (by simp) (by simp) (by simp) (by simp) hm r1 r2
  cases e
  exact op_lt pins s σ S.H _ _ v u Q I rx ry ⟨i, j, rfl, rfl, q⟩
theorem v_le : OpR X (compareOp .LtE) (R2b c (cmp .le)) := by
  intro pins s σ H x y v u Q I rx ry h
  obtain ⟨S, st, m1, m2, b, rfl, R, r1, r2, hm, q⟩ := h
  obtain ⟨i, j, rfl, rfl, e⟩ := cmpI_of (by simp) (by simp) (by simp) (by simp) hm r1 r2
  cases e
  exact op_le pins s σ S.H _ _ v u Q I rx ry ⟨i, j, rfl, rfl, q⟩
theorem v_gt : OpR X (compareOp .Gt) (R2b c (cmp .gt)) := by
  intro pins s σ H x y v u Q I rx ry h
  obtain ⟨S, st, m1, m2, b, rfl, R, r1, r2, hm, q⟩ := h
  obtain ⟨i, j, rfl, rfl, e⟩ := cmpI_of (by simp) (by simp) (by simp) (by simp) hm r1 r2
  cases e
  exact op_gt pins s σ S.H _ _ v u Q I rx ry ⟨i, j, rfl, rfl, q⟩
theorem v_ge : OpR X (compareOp .GtE) (R2b c (cmp .ge)) := by
  intro pins s σ H x y v u Q I rx ry h
  obtain ⟨S, st, m1, m2, b, rfl, R, r1, r2, hm, q⟩ := h
  obtain ⟨i, j, rfl, rfl, e⟩ := cmpI_of (by simp) (by simp) (by simp) (by simp) hm r1 r2
  cases e
  exact op_ge pins s σ S.H _ _ v u Q I rx ry ⟨i, j, rfl, rfl, q⟩
end
end OI

/-! OIf: dicts, membership, subscripts, slices by values. -/
namespace OI
open PySem PySem.Spec PyProof.Rows L2
variable {c : Cn} {S : Wd} {s : Store}

theorem keyOf_V {k : D} {v : V} (h : k.flatKey = true) (r : RepD c S k v) : v = kV (keyOf k) := by
  cases k with
  | int i => exact r
  | str x => exact r
  | _ => cases h
theorem keyOf_inj {k k' : D} (h : k.flatKey = true) (h' : k'.flatKey = true) (e : keyOf k = keyOf k') : k = k' := by
  cases k with
  | int i =>
    cases k' with
    | int j => cases e; rfl
    | str y => cases e
    | _ => cases h'
  | str x =>
    cases k' with
    | int j => cases e
    | str y => cases e; rfl
    | _ => cases h'
  | _ => cases h
/-- the pairs as they lie -/
abbrev kpairs (kvs : List (D × D)) (vs : List V) : List (Key × V) := ((kvs.map (·.1)).zip vs).map fun q => (keyOf q.1, q.2)
theorem kget {k : D} (hk : k.flatKey = true) : ∀ {kvs : List (D × D)} {vs : List V}, RepKs c S false kvs vs →
    (∀ d, dget kvs k = some d → ∃ v, valV (kpairs kvs vs) (keyOf k) = some v ∧ RepD c S d v) ∧ (dget kvs k = none → valV (kpairs kvs vs) (keyOf k) = none)
  | [], _, h => by
    rw [show _ = [] from h]
    exact ⟨fun d e => (by cases e), fun _ => rfl⟩
  | (a, d) :: r, _, ⟨v, w, e, ha, h1, h2⟩ => by
    subst e
    obtain ⟨ih1, ih2⟩ := kget hk h2
    by_cases z : a = k
    · subst z
      have e1 : dget ((a, d) :: r) a = some d := by simp [dget]
      have e2 : valV (kpairs ((a, d) :: r) (v :: w)) (keyOf a) = some v := by simp [kpairs, valV]
      rw [e1, e2]
      exact ⟨fun d' q => ⟨v, rfl, by cases q; exact h1⟩, fun q => by cases q⟩
    · have e1 : dget ((a, d) :: r) k = dget r k := by simp [dget, z]
      have hne : ¬ keyOf a = keyOf k := fun q => z (keyOf_inj ha hk q)
      have e2 : valV (kpairs ((a, d) :: r) (v :: w)) (keyOf k) = valV (kpairs r w) (keyOf k) := by simp [kpairs, valV, hne]
      rw [e1, e2]
      exact ⟨ih1, ih2⟩
theorem dic_of {m : M} {v : V} {t : Bool} {kvs : List (D × D)} (h : m.dic? = some (t, kvs)) (r : RepV c S m v) : ∃ p vs, v = .ref p ∧ S.H p = some (dHO c p t (kvs.map (·.1)) vs) ∧ RepKs c S t kvs vs := by
  cases m with
  | val d =>
    cases d with
    | dic t' kvs' =>
      cases h
      obtain ⟨p, vs, e, h1, _, h2⟩ := r
      exact ⟨p, vs, e, h1, h2⟩
    | _ => cases h
  | ol xs => cases h
  | od t' kvs' =>
    cases h
    exact r
section
variable {X : Cx} {pins : List (Addr × Obj)} {σ : L2.St} {H : Hp} {sh : Shared}
/-- dicts whose keys are tuples: not yet -/
theorem no_true {p : Addr} {ks : List D} {vs : List V} (I : Inv X pins σ H sh) (h : H p = some (dHO c p true ks vs)) : False := by
  obtain ⟨f, _⟩ := I.hok p _ h
  exact f
/-- what a dict gives for a key -/
theorem dget_ok {p : Addr} {t : Bool} {kvs : List (D × D)} {vs : List V} {k : D} {y : V} (I : Inv X pins σ S.H sh) (h : S.H p = some (dHO c p t (kvs.map (·.1)) vs)) (r : RepKs c S t kvs vs) (hk : keyOk t k = true) (rk : RepD c S k y) :
    ∃ o, DGet S.H p y o ∧ (∀ d, dget kvs k = some d → ∃ v, o = some v ∧ RepD c S d v) ∧ (dget kvs k = none → o = none) := by
  cases t with
  | true => exact (no_true I h).elim
  | false =>
    have hk : k.flatKey = true := hk
    obtain ⟨g1, g2⟩ := kget hk r
    exact ⟨valV (kpairs kvs vs) (keyOf k), .inl ⟨_, keyOf k, .inl h, keyOf_V hk rk, rfl⟩, g1, g2⟩
end

/-! ### in -/
theorem flat_V {d : D} {v : V} (h : d.flat = true) (r : RepD c S d v) : flatV v = true := by
  cases d <;> first | (cases r; rfl) | cases h
theorem flat_eqv {d e : D} {v w : V} (hd : d.flat = true) (he : e.flat = true) (rd : RepD c S d v) (re : RepD c S e w) : eqV v w = eqv d e := by
  cases d <;> first | cases hd | skip
  all_goals (cases e <;> first | cases he | skip)
  all_goals (cases rd; cases re; rfl)
theorem flats_V : ∀ {ds : List D} {vs : List V}, ds.all D.flat = true → RepDs c S ds vs → vs.all flatV = true
  | [], _, _, h => by rw [show _ = [] from h]; rfl
  | d :: ds, _, hf, ⟨v, r, e, h1, h2⟩ => by
    subst e
    rw [List.all_cons, Bool.and_eq_true] at hf ⊢
    exact ⟨flat_V hf.1 h1, flats_V hf.2 h2⟩
theorem any_eqv {d : D} {v : V} (hd : d.flat = true) (rd : RepD c S d v) : ∀ {ds : List D} {vs : List V}, ds.all D.flat = true → RepDs c S ds vs → inV v vs = ds.any fun y => eqv y d
  | [], _, _, h => by rw [show _ = [] from h]; rfl
  | e :: ds, _, hf, ⟨w, r, q, h1, h2⟩ => by
    subst q
    rw [List.all_cons, Bool.and_eq_true] at hf
    have ih := any_eqv hd rd hf.2 h2
    unfold inV at ih ⊢
    rw [List.any_cons, List.any_cons, ih, flat_eqv hf.1 hd h1 rd]
theorem toPys_map : ∀ ds : List D, toPys ds = ds.map toPy
  | [] => rfl
  | d :: ds => by rw [toPys, List.map_cons, toPys_map ds]

inductive InHow (c : Cn) (S : Wd) (x y : V) (b : Bool) : Prop where
  | sign (n : Nat) (z : Str) : x = .str ⟨#[n]⟩ → y = .str z → b = decide (n ∈ z.cps.toList) → InHow c S x y b
  | dic (p : Addr) (t : Bool) (kvs : List (D × D)) (vs : List V) (k : D) : y = .ref p → S.H p = some (dHO c p t (kvs.map (·.1)) vs) → RepKs c S t kvs vs → keyOk t k = true → RepD c S k x → b = (dget kvs k).isSome → InHow c S x y b
  | flat (p : Addr) (vs : List V) : y = .ref p → (SqL c.K S.H p vs ∨ SqT c.K S.H p vs) → flatV x = true → vs.all flatV = true → b = inV x vs → InHow c S x y b
  | deep (d : PyData) (ds : List PyData) : Dp c.K S.H x d → Dp c.K S.H y (.list ds) → SeqAt.shaped d = true → (PyData.list ds).canLay0 = true → b = (ds.any fun z => PyData.eqv z d) → InHow c S x y b
theorem sign_eq {x : Str} (h : x.length = 1) : x = ⟨#[x.cps.getD 0 0]⟩ := by
  obtain ⟨a⟩ := x
  have h : a.size = 1 := h
  obtain ⟨l⟩ := a
  cases l with
  | nil => simp at h
  | cons q r =>
    cases r with
    | nil => rfl
    | cons q2 r2 => simp at h
theorem lst_toPy {m : M} {ds : List D} {v : V} (h : m.lst? = some ds) (r : RepV c S m v) (l : (D.lst ds).lay = true) : Dp c.K S.H v (.list (toPys ds)) := by
  have hl : (toPy m.frz).canLay0 = true := by
    cases m with
    | val d =>
      cases d with
      | lst xs => cases h; exact l
      | scr ns =>
        cases h
        simp only [M.frz, toPy, PyData.canLay0]
        clear r l
        induction ns with
        | nil => rfl
        | cons n ns ih => simp [PyData.canLayAll0, PyData.canLay0, ih]
      | _ => cases h
    | ol xs => cases h; exact l
    | od t kvs => cases h
  have e : toPy m.frz = .list (toPys ds) := by
    cases m with
    | val d =>
      cases d with
      | lst xs => cases h; rfl
      | scr ns =>
        cases h
        rw [toPys_map, List.map_map]
        rfl
      | _ => cases h
    | ol xs => cases h; rfl
    | od t kvs => cases h
  rw [← e]
  exact dpv_of r hl
theorem isIn_how {m1 m2 : M} {b : Bool} {x y : V} (h : isIn m1 m2 = some b) (r1 : RepV c S m1 x) (r2 : RepV c S m2 y) : InHow c S x y b := by
  unfold isIn at h
  split at h
  · rename_i d
    split at h
    · rename_i z
      split at h
      · rename_i w
        split at h
        · rename_i h1
          cases h
          cases r1
          cases r2
          refine .sign (w.cps.getD 0 0) z (by rw [← sign_eq h1]) rfl rfl
        · cases h
      · cases h
    · split at h
      · rename_i t kvs hd
        split at h
        · rename_i hk
          cases h
          obtain ⟨p, vs, e, h1, h2⟩ := dic_of hd r2
          exact .dic p t kvs vs d e h1 h2 hk r1 rfl
        · cases h
      · split at h
        · rename_i ys hs
          split at h
          · rename_i hf
            cases h
            rw [Bool.and_eq_true] at hf
            obtain ⟨p, vs, e, h1, h2⟩ := seq_of hs r2
            exact .flat p vs e h1 (flat_V hf.1 r1) (flats_V hf.2 h2) (any_eqv hf.1 r1 hf.2 h2).symm
          · split at h
            · rename_i hf
              cases h
              simp only [Bool.and_eq_true, decide_eq_true_eq] at hf
              obtain ⟨⟨⟨l0, l1⟩, l2⟩, l3⟩ := hf
              obtain ⟨ys', hy⟩ := Option.isSome_iff_exists.mp l0
              have e : ys' = ys := by
                have h2 : M.seq? m2 = some ys := hs
                cases m2 with
                | val d' =>
                  cases d' with
                  | tup xs => cases hy
                  | lst xs => cases hy; cases h2; rfl
                  | scr xs => cases hy; cases h2; rfl
                  | _ => cases hy
                | ol xs => cases hy; cases h2; rfl
                | od t kvs => cases hy
              subst e
              refine .deep (toPy d) (toPys ys') (dp_of S r1 l1) (lst_toPy hy r2 l2) (by
                unfold SeqAt.shaped
                rw [Bool.and_eq_true]
                exact ⟨l1, decide_eq_true (by unfold D.deep at l3; omega)⟩) (by simpa [D.lay, toPy] using l2) ?_
              rw [toPys_map, List.any_map]
              rfl
            · cases h
        · cases h
  · cases h
section
variable {X : Cx}
theorem v_in (hK : X.K = c.K) (hu : X.A.units + 65 < cLine) : OpR X (compareOp .In) (R2b c (cmp .isin)) := by
  intro pins s σ H x y v u Q I rx ry h
  obtain ⟨S, st, m1, m2, b, rfl, R, r1, r2, hm, q⟩ := h
  rcases isIn_how (show isIn m1 m2 = some b from hm) r1 r2 with ⟨n, z, rfl, rfl, rfl⟩ | ⟨p, t, kvs, vs, k, rfl, h1, h2, hk, rk, rfl⟩ | ⟨p, vs, rfl, h1, h2, h3, rfl⟩ | ⟨d, ds, h1, h2, h3, h4, rfl⟩
  · exact op_in_sign pins s σ S.H _ _ v u Q I rx ry ⟨n, z, rfl, rfl, q⟩
  · obtain ⟨o, g, g1, g2⟩ := dget_ok I h1 h2 hk rk
    have e : o.isSome = (dget kvs k).isSome := by
      cases w : dget kvs k with
      | none => rw [g2 w]; rfl
      | some d =>
        obtain ⟨v', e, _⟩ := g1 d w
        rw [e]; rfl
    cases ry
    exact d_in (by omega) I g rx fun s' I' => ⟨.bl _, S.H, I', by rw [e]; rfl, q⟩
  · exact op_in_seq pins s σ S.H _ _ v u Q I rx ry ⟨p, vs, rfl, by rw [hK]; exact h1, h2, h3, q⟩
  · rw [← hK] at h1 h2
    obtain ⟨as, r1⟩ := Dp.reads I d x v h1 rx
    obtain ⟨bs, r2⟩ := Dp.reads I (.list ds) y u h2 ry
    exact SeqAt.in_list_reads r2 r1 h4 (SeqAt.canLay_of_shaped h3) (room_in_shaped h3 hu) ⟨.bl _, S.H, I, rfl, q⟩
theorem v_nin (hK : X.K = c.K) (hu : X.A.units + 65 < cLine) : OpR X (compareOp .NotIn) (R2b c (cmp .nin)) := by
  intro pins s σ H x y v u Q I rx ry h
  obtain ⟨S, st, m1, m2, b, rfl, R, r1, r2, hm, q⟩ := h
  have hm : (isIn m1 m2).map (fun c => !c) = some b := hm
  cases e : isIn m1 m2 with
  | none => rw [e] at hm; cases hm
  | some b' =>
    rw [e] at hm
    cases hm
    rcases isIn_how e r1 r2 with ⟨n, z, rfl, rfl, rfl⟩ | ⟨p, t, kvs, vs, k, rfl, h1, h2, hk, rk, rfl⟩ | ⟨p, vs, rfl, h1, h2, h3, rfl⟩ | ⟨d, ds, h1, h2, h3, h4, rfl⟩
    · exact op_notIn_sign pins s σ S.H _ _ v u Q I rx ry ⟨n, z, rfl, rfl, q⟩
    · obtain ⟨o, g, g1, g2⟩ := dget_ok I h1 h2 hk rk
      have e : o.isSome = (dget kvs k).isSome := by
        cases w : dget kvs k with
        | none => rw [g2 w]; rfl
        | some d =>
          obtain ⟨v', e, _⟩ := g1 d w
          rw [e]; rfl
      cases ry
      exact d_notIn (by omega) I g rx fun s' I' => ⟨.bl _, S.H, I', by rw [e]; rfl, q⟩
    · exact op_notIn_seq pins s σ S.H _ _ v u Q I rx ry ⟨p, vs, rfl, by rw [hK]; exact h1, h2, h3, q⟩
    · rw [← hK] at h1 h2
      obtain ⟨as, r1⟩ := Dp.reads I d x v h1 rx
      obtain ⟨bs, r2⟩ := Dp.reads I (.list ds) y u h2 ry
      exact SeqAt.notIn_list_reads r2 r1 h4 (SeqAt.canLay_of_shaped h3) (room_in_shaped h3 hu) ⟨.bl _, S.H, I, rfl, q⟩

/-! ### a[i] -/
/-- by values: the answer is data that stands already -/
def R2d (c : Cn) (k : M → M → Option D) : R2 := fun x y H Q => ∃ S s m1 m2 d, S.H = H ∧ RlS c S s ∧ RepV c S m1 x ∧ RepV c S m2 y ∧ k m1 m2 = some d ∧ ∀ v, RepD c S d v → Q v H
theorem atI_rep {ds : List D} {vs : List V} {i : Int} {d : D} (r : RepDs c S ds vs) (h : L2.atI ds i = some d) : ∃ v, L2.atI vs i = some v ∧ RepD c S d v := by
  unfold L2.atI at h ⊢
  rw [r.length]
  cases e : L2.ixN ds.length i with
  | none => rw [e] at h; cases h
  | some j =>
    rw [e] at h
    obtain ⟨v, h1, h2⟩ := r.get (show ds[j]? = some d from h)
    exact ⟨v, h1, h2⟩
theorem v_index (hK : X.K = c.K) (hu : X.A.units + 65 < cLine) : IxR X (R2d c index) := by
  intro value slice pins s σ H x y v u Q I rx ry h hs
  obtain ⟨S, st, m1, m2, d, rfl, R, r1, r2, hm, q⟩ := h
  unfold index at hm
  split at hm
  · split at hm
    · rename_i z i hl
      unfold strAt at hm
      cases e : L2.atI z.cps.toList i with
      | none => rw [e] at hm; cases hm
      | some n =>
        rw [e] at hm
        cases hm
        cases r1
        cases r2
        exact ix_str value slice pins s σ S.H _ _ v u Q I rx ry ⟨z, i, n, rfl, rfl, lim_le hl, e, q _ rfl⟩ hs
    · cases hm
  · rename_i k _ _
    split at hm
    · rename_i xs e
      split at hm
      · rename_i i
        obtain ⟨p, vs, rfl, h1, h2⟩ := seq_of e r1
        cases r2
        obtain ⟨w, g1, g2⟩ := atI_rep h2 hm
        rcases h1 with h1 | h1
        · exact ix_list value slice pins s σ S.H _ _ v u Q I rx ry ⟨p, vs, _, w, rfl, rfl, by rw [hK]; exact h1, g1, q w g2⟩ hs
        · exact ix_tup value slice pins s σ S.H _ _ v u Q I rx ry ⟨p, vs, _, w, rfl, rfl, by rw [hK]; exact h1, g1, q w g2⟩ hs
      · cases hm
    · split at hm
      · rename_i t kvs e
        split at hm
        · rename_i hk
          obtain ⟨p, vs, rfl, h1, h2⟩ := dic_of e r1
          obtain ⟨o, g, g1, _⟩ := dget_ok I h1 h2 hk r2
          obtain ⟨w, rfl, g2⟩ := g1 d hm
          cases rx
          exact tail_any (dict_typeIs I g) PySem.F.slot_dict_getitem.lookup (d_getItem (by omega) I g ry fun w' s' I' r' => ⟨w, S.H, I', r', q w g2⟩) hs
        · cases hm
      · cases hm
  · cases hm
end
end OI

/-! OIg: built-in functions and methods by values. -/
namespace OI
open PySem PySem.Spec PyProof.Rows L2
variable {c : Cn} {S : Wd} {s : Store}

def R1c (c : Cn) (k : M → Option M) : List V → Hp → VK → Prop := fun xs H Q => ∃ S s m1 x m, xs = [x] ∧ S.H = H ∧ RlS c S s ∧ RepV c S m1 x ∧ k m1 = some m ∧ ∀ S' v, Al S S' → RepM c S' .tmp m v → Q v S'.H
def R2c (c : Cn) (k : M → M → Option M) : List V → Hp → VK → Prop := fun xs H Q => ∃ S s m1 m2 x y m, xs = [x, y] ∧ S.H = H ∧ RlS c S s ∧ RepV c S m1 x ∧ RepV c S m2 y ∧ k m1 m2 = some m ∧ ∀ S' v, Al S S' → RepM c S' .tmp m v → Q v S'.H
def R3c (c : Cn) (k : M → M → M → Option M) : List V → Hp → VK → Prop := fun xs H Q => ∃ S s m1 m2 m3 x y z m, xs = [x, y, z] ∧ S.H = H ∧ RlS c S s ∧ RepV c S m1 x ∧ RepV c S m2 y ∧ RepV c S m3 z ∧ k m1 m2 m3 = some m ∧ ∀ S' v, Al S S' → RepM c S' .tmp m v → Q v S'.H

theorem ints_of : ∀ {ds : List D} {vs : List V} {ns : List Int}, ints? ds = some ns → RepDs c S ds vs → vs = ns.map V.int
  | [], _, _, h, r => by cases h; exact r
  | d :: ds, _, ns, h, ⟨v, r, e, h1, h2⟩ => by
    subst e
    cases d with
    | int i =>
      unfold ints? at h
      cases w : ints? ds with
      | none => rw [w] at h; cases h
      | some ms =>
        rw [w] at h
        cases h
        rw [ints_of w h2, show v = V.int i from h1]
        rfl
    | _ => cases h
theorem strs_of : ∀ {ds : List D} {vs : List V} {ns : List Str}, strs? ds = some ns → RepDs c S ds vs → vs = ns.map V.str
  | [], _, _, h, r => by cases h; exact r
  | d :: ds, _, ns, h, ⟨v, r, e, h1, h2⟩ => by
    subst e
    cases d with
    | str i =>
      unfold strs? at h
      cases w : strs? ds with
      | none => rw [w] at h; cases h
      | some ms =>
        rw [w] at h
        cases h
        rw [strs_of w h2, show v = V.str i from h1]
        rfl
    | _ => cases h
theorem lints_of {m : M} {v : V} {ns : List Int} (h : m.lst?.bind ints? = some ns) (r : RepV c S m v) : ∃ p, v = .ref p ∧ SqL c.K S.H p (ns.map V.int) := by
  cases e : m.lst? with
  | none => rw [e] at h; cases h
  | some ds =>
    rw [e] at h
    obtain ⟨p, vs, e1, h1, h2⟩ := lst_of e r
    rw [ints_of h h2] at h1
    exact ⟨p, e1, h1⟩
theorem sints_of {m : M} {v : V} {ns : List Int} (h : m.seq?.bind ints? = some ns) (r : RepV c S m v) : ∃ p, v = .ref p ∧ (SqL c.K S.H p (ns.map V.int) ∨ SqT c.K S.H p (ns.map V.int)) := by
  cases e : m.seq? with
  | none => rw [e] at h; cases h
  | some ds =>
    rw [e] at h
    obtain ⟨p, vs, e1, h1, h2⟩ := seq_of e r
    rw [ints_of h h2] at h1
    exact ⟨p, e1, h1⟩
theorem maxI_mem : ∀ (n : Int) (ns : List Int), maxI (n :: ns) ∈ n :: ns ∧ ∀ a ∈ n :: ns, a ≤ maxI (n :: ns)
  | n, [] => ⟨by simp [maxI], fun a h => by simp at h; simp [maxI, h]⟩
  | n, m :: ns => by
    obtain ⟨h1, h2⟩ := maxI_mem m ns
    have e : maxI (n :: m :: ns) = max n (maxI (m :: ns)) := rfl
    rw [e]
    refine ⟨?_, fun a h => ?_⟩
    · rcases Int.le_total n (maxI (m :: ns)) with l | l
      · rw [Int.max_eq_right l]; exact List.mem_cons_of_mem _ h1
      · rw [Int.max_eq_left l]; exact List.mem_cons_self
    · rcases List.mem_cons.mp h with q | q
      · rw [q]; omega
      · have := h2 a q
        omega
theorem minI_mem : ∀ (n : Int) (ns : List Int), minI (n :: ns) ∈ n :: ns ∧ ∀ a ∈ n :: ns, minI (n :: ns) ≤ a
  | n, [] => ⟨by simp [minI], fun a h => by simp at h; simp [minI, h]⟩
  | n, m :: ns => by
    obtain ⟨h1, h2⟩ := minI_mem m ns
    have e : minI (n :: m :: ns) = min n (minI (m :: ns)) := rfl
    rw [e]
    refine ⟨?_, fun a h => ?_⟩
    · rcases Int.le_total n (minI (m :: ns)) with l | l
      · rw [Int.min_eq_left l]; exact List.mem_cons_self
      · rw [Int.min_eq_right l]; exact List.mem_cons_of_mem _ h1
    · rcases List.mem_cons.mp h with q | q
      · rw [q]; omega
      · have := h2 a q
        omega
theorem insI_perm (a : Int) : ∀ l : List Int, (insI a l).Perm (a :: l)
  | [] => .refl _
  | b :: r => by
    unfold insI
    split
    · exact .refl _
    · exact ((insI_perm a r).cons b).trans (.swap a b r)
theorem sortI_perm : ∀ l : List Int, (sortI l).Perm l
  | [] => .refl _
  | a :: r => (insI_perm a (sortI r)).trans ((sortI_perm r).cons a)
theorem insI_pw (a : Int) : ∀ {l : List Int}, l.Pairwise (· ≤ ·) → (insI a l).Pairwise (· ≤ ·)
  | [], _ => List.pairwise_singleton _ _
  | b :: r, h => by
    unfold insI
    have h' := List.pairwise_cons.mp h
    split
    · rename_i hab
      exact List.pairwise_cons.mpr ⟨fun x hx => by
        rcases List.mem_cons.mp hx with q | q
        · rw [q]; exact hab
        · exact Int.le_trans hab (h'.1 x q), h⟩
    · rename_i hab
      refine List.pairwise_cons.mpr ⟨fun x hx => ?_, insI_pw a h'.2⟩
      rcases List.mem_cons.mp ((insI_perm a r).mem_iff.mp hx) with q | q
      · rw [q]; omega
      · exact h'.1 x q
theorem sortI_pw : ∀ l : List Int, (sortI l).Pairwise (· ≤ ·)
  | [] => .nil
  | a :: r => insI_pw a (sortI_pw r)
theorem sorted_one {l l' : List Int} (h : l.Perm l') (a : l.Pairwise (· ≤ ·)) (b : l'.Pairwise (· ≤ ·)) : l = l' :=
  h.eq_of_pairwise (le := fun x y => x ≤ y) (fun x y _ _ h1 h2 => Int.le_antisymm h1 h2) a b

section
variable {X : Cx}
theorem sum_tuple_raw {prog : Program} {w : World} {A : Around} {E : Value → Shared → Prop} {s : Shared} {l : Addr} {its : List Value} {ns : List Int} {Q : Value → Shared → Prop} (hh : A.handled = none) (hl : IsTup s.heap l its.toArray) (hi : IntsAre its ns)
    (h : ∀ h' tk t', (∀ b o, s.heap.get? b = some o → h'.get? b = some o) → Q (.int ns.sum t') { s with heap := h', toks := tk }) : wpAny (model prog w) A (call (.builtin "sum") [.ref l]) Q E s := by
  obtain ⟨xs, e⟩ := hi.allInts.items
  have hn : numsOf (intItems xs).toList = ns := by rw [← e]; exact hi.numsOf
  rw [nums_intItems] at hn
  rw [e] at hl
  have hT : s.heap.IsTuple l (intItems xs) := hl
  refine PySem.call_sum_walkG (wpAny_pyIter_tuple hT ?_)
  have hlt : l < s.heap.objs.size := hl.lt
  refine ⟨s.heap.objs.size, [s.heap.objs.size, l], [s.heap.objs.size], _, _, _, numAt xs, rfl, Walks.tuple (A := A.in1) hh _ l (Nat.ne_of_lt hlt) (intItems xs), ⟨⟨_, Heap.get?_push_size _ rfl, rfl, rfl⟩, hT.push _⟩, fun b hb => ?_, (fun _ _ => intItems_at), fun h' tk t' hk => ?_⟩
  · show b < (s.heap.push _).objs.size
    rw [Heap.size_push]
    rcases List.mem_cons.mp hb with rfl | hb
    · exact Nat.lt_succ_self _
    · rw [List.mem_singleton.mp hb]; exact Nat.lt_succ_of_lt hlt
  · have := h h' tk t' fun b o e => hk b o (fun hm => by rw [List.mem_singleton.mp hm] at e; exact Nat.lt_irrefl _ (Heap.lt_size e)) (Heap.get?_push_of_some _ e)
    have e2 : preSum (numAt xs) (intItems xs).size = ns.sum := by
      rw [preSum_eq, List.take_of_length_le (by simp [intItems]), hn]
    rw [e2]
    exact this

theorem b_len (hK : X.K = c.K) : CallR X (.builtin "len") (R1c c (bi1 "len")) := by
  intro pins s σ H xs us Q I rs h
  obtain ⟨S, st, m1, x, m, rfl, rfl, R, r1, hm, q⟩ := h
  unfold bi1 at hm
  simp only at hm
  split at hm
  · split at hm
    · rename_i z hl
      cases hm
      cases r1
      exact call_len_str pins s σ S.H _ us Q I rs ⟨z, rfl, lim_le hl, q S _ (Al.refl R) rfl⟩
    · cases hm
  · split at hm
    · rename_i ys e
      cases hm
      obtain ⟨p, vs, rfl, h1, h2⟩ := seq_of e r1
      refine call_len_seq pins s σ S.H _ us Q I rs ⟨p, vs, rfl, by rw [hK]; exact h1, ?_⟩
      rw [h2.length]
      exact q S _ (Al.refl R) rfl
    · cases hm
theorem b_sum (hK : X.K = c.K) (hc : X.calm = true) : CallR X (.builtin "sum") (R1c c (bi1 "sum")) := by
  intro pins s σ H xs us Q I rs h
  obtain ⟨S, st, m1, x, m, rfl, rfl, R, r1, hm, q⟩ := h
  unfold bi1 at hm
  simp only at hm
  split at hm
  · rename_i ns e
    cases hm
    obtain ⟨p, rfl, h1⟩ := sints_of e r1
    have fin := q S _ (Al.refl R) (show RepM c S .tmp (.val (.int ns.sum)) (.int ns.sum) from rfl)
    rcases h1 with h1 | h1
    · exact cr_sum hc pins s σ S.H _ us Q I rs ⟨p, ns, rfl, by rw [hK]; exact h1, fin⟩
    · rw [← hK] at h1
      obtain ⟨its, rv, ht, _⟩ := I.tuple h1
      rw [Vals.ref1 rs]
      exact sum_tuple_raw (I.ok.hd hc) ht rv.ints fun h' tk t' k => ⟨.int ns.sum, S.H, I.kept k, ⟨_, rfl⟩, fin⟩
  · cases hm
theorem b_max1 (hK : X.K = c.K) (hc : X.calm = true) : CallR X (.builtin "max") (R1c c (bi1 "max")) := by
  intro pins s σ H xs us Q I rs h
  obtain ⟨S, st, m1, x, m, rfl, rfl, R, r1, hm, q⟩ := h
  unfold bi1 at hm
  simp only at hm
  split at hm
  · rename_i n ns e
    cases hm
    obtain ⟨p, rfl, h1⟩ := lints_of e r1
    obtain ⟨g1, g2⟩ := maxI_mem n ns
    refine cr_max hc pins s σ S.H _ us Q I rs ⟨p, n :: ns, rfl, by rw [hK]; exact h1, by simp, fun k k1 k2 => ?_⟩
    have e : k = maxI (n :: ns) := Int.le_antisymm (g2 k k1) (k2 _ g1)
    rw [e]
    exact q S _ (Al.refl R) rfl
  · cases hm
theorem b_min1 (hK : X.K = c.K) (hc : X.calm = true) : CallR X (.builtin "min") (R1c c (bi1 "min")) := by
  intro pins s σ H xs us Q I rs h
  obtain ⟨S, st, m1, x, m, rfl, rfl, R, r1, hm, q⟩ := h
  unfold bi1 at hm
  simp only at hm
  split at hm
  · rename_i n ns e
    cases hm
    obtain ⟨p, rfl, h1⟩ := lints_of e r1
    obtain ⟨g1, g2⟩ := minI_mem n ns
    refine cr_min hc pins s σ S.H _ us Q I rs ⟨p, n :: ns, rfl, by rw [hK]; exact h1, by simp, fun k k1 k2 => ?_⟩
    have e : k = minI (n :: ns) := Int.le_antisymm (k2 _ g1) (g2 k k1)
    rw [e]
    exact q S _ (Al.refl R) rfl
  · cases hm
theorem b_sorted (hK : X.K = c.K) : CallR X (.builtin "sorted") (R1c c (bi1 "sorted")) := by
  intro pins s σ H xs us Q I rs h
  obtain ⟨S, st, m1, x, m, rfl, rfl, R, r1, hm, q⟩ := h
  unfold bi1 at hm
  simp only at hm
  split at hm
  · rename_i ns e
    cases hm
    obtain ⟨p, rfl, h1⟩ := lints_of e r1
    refine cr_sortedI pins s σ S.H _ us Q I rs ⟨p, ns, rfl, by rw [hK]; exact h1, fun ns' a k1 k2 na => ?_⟩
    have e : ns' = sortI ns := sorted_one (k1.trans (sortI_perm ns).symm) k2 (sortI_pw ns)
    subst e
    have hlen := len_le I hK (.inl h1)
    obtain ⟨S', al, hH, rp⟩ := new_lst R na (RepDs.ints (sortI ns)) (by rw [List.length_map, (sortI_perm ns).length_eq]; rw [List.length_map] at hlen; exact hlen)
    have := q S' _ al rp
    rw [hH] at this
    exact this
  · cases hm
theorem b_list (hK : X.K = c.K) : CallR X (.type "list") (R1c c (bi1 "list")) := by
  intro pins s σ H xs us Q I rs h
  obtain ⟨S, st, m1, x, m, rfl, rfl, R, r1, hm, q⟩ := h
  unfold bi1 at hm
  simp only at hm
  split at hm
  · rename_i ys e
    cases hm
    obtain ⟨p, vs, rfl, h1, h2⟩ := seq_of e r1
    refine call_list_of pins s σ S.H _ us Q I rs ⟨p, vs, rfl, by rw [hK]; exact h1, fun a na => ?_⟩
    obtain ⟨S', al, hH, rp⟩ := new_lst R na h2 (len_le I hK h1)
    have := q S' _ al rp
    rw [hH] at this
    exact this
  · cases hm
theorem b_tuple (hK : X.K = c.K) : CallR X (.type "tuple") (R1c c (bi1 "tuple")) := by
  intro pins s σ H xs us Q I rs h
  obtain ⟨S, st, m1, x, m, rfl, rfl, R, r1, hm, q⟩ := h
  unfold bi1 at hm
  simp only at hm
  split at hm
  · rename_i ys e
    cases hm
    have other : ∀ p vs, x = V.ref p → SqL c.K S.H p vs → RepDs c S ys vs → wpAny (model X.prog X.w) X.A (call (.type "tuple") us) (EP X pins σ Q) X.xe s := fun p vs ex h1 h2 => by
      subst ex
      refine call_tuple_of pins s σ S.H _ us Q I rs ⟨p, vs, rfl, .inl ⟨by rw [hK]; exact h1, fun a na => ?_⟩⟩
      obtain ⟨S', al, hH, rp⟩ := new_tup R na h2 (len_le I hK (.inl h1))
      have := q S' _ al rp
      rw [hH] at this
      exact this
    cases m1 with
    | val d =>
      cases d with
      | tup zs =>
        cases e
        obtain ⟨p, vs, rfl, h1, h2⟩ := r1
        exact call_tuple_of pins s σ S.H _ us Q I rs ⟨p, vs, rfl, .inr ⟨by rw [hK]; exact h1.sq, q S _ (Al.refl R) ⟨p, vs, rfl, h1, h2⟩⟩⟩
      | lst zs =>
        obtain ⟨p, vs, rfl, h1, h2⟩ := lst_of (show M.lst? (.val (.lst zs)) = some ys from e) r1
        exact other p vs rfl h1 h2
      | scr zs =>
        obtain ⟨p, vs, rfl, h1, h2⟩ := lst_of (show M.lst? (.val (.scr zs)) = some ys from e) r1
        exact other p vs rfl h1 h2
      | _ => cases e
    | ol zs =>
      obtain ⟨p, vs, rfl, h1, h2⟩ := lst_of (show M.lst? (.ol zs) = some ys from e) r1
      exact other p vs rfl h1 h2
    | od t kvs => cases e
  · cases hm
theorem b_int : CallR X (.type "int") (R1c c (bi1 "int")) := by
  intro pins s σ H xs us Q I rs h
  obtain ⟨S, st, m1, x, m, rfl, rfl, R, r1, hm, q⟩ := h
  unfold bi1 at hm
  simp only at hm
  split at hm
  · cases hm
    cases r1
    exact call_int1 pins s σ S.H _ us Q I rs (.inl ⟨_, rfl, q S _ (Al.refl R) rfl⟩)
  · cases hm
    cases r1
    exact call_int1 pins s σ S.H _ us Q I rs (.inr ⟨_, rfl, q S _ (Al.refl R) rfl⟩)
  · split at hm
    · rename_i z hl
      cases e : PySem.intText? z with
      | none => rw [e] at hm; cases hm
      | some n =>
        rw [e] at hm
        cases hm
        cases r1
        exact call_int_str pins s σ S.H _ us Q I rs ⟨z, n, rfl, e, hl, q S _ (Al.refl R) rfl⟩
    · cases hm
  · cases hm
theorem b_str : CallR X (.type "str") (R1c c (bi1 "str")) := by
  intro pins s σ H xs us Q I rs h
  obtain ⟨S, st, m1, x, m, rfl, rfl, R, r1, hm, q⟩ := h
  unfold bi1 at hm
  simp only at hm
  split at hm
  · split at hm
    · rename_i i hl
      cases hm
      cases r1
      exact call_str_int pins s σ S.H _ us Q I rs ⟨i, rfl, hl, q S _ (Al.refl R) rfl⟩
    · cases hm
  · cases hm
theorem b_max2 (hc : X.calm = true) : CallR X (.builtin "max") (R2c c (bi2 "max")) := by
  intro pins s σ H xs us Q I rs h
  obtain ⟨S, st, m1, m2, x, y, m, rfl, rfl, R, r1, r2, hm, q⟩ := h
  unfold bi2 at hm
  simp only at hm
  split at hm
  · rename_i i j
    cases hm
    cases r1
    cases r2
    refine call_max2 hc pins s σ S.H _ us Q I rs ⟨_, _, rfl, ?_⟩
    have := q S _ (Al.refl R) (show RepM c S .tmp (.val (.int (max i j))) (.int (max i j)) from rfl)
    rw [show (if j > i then j else i) = max i j by split <;> omega]
    exact this
  · cases hm
theorem b_min2 (hc : X.calm = true) : CallR X (.builtin "min") (R2c c (bi2 "min")) := by
  intro pins s σ H xs us Q I rs h
  obtain ⟨S, st, m1, m2, x, y, m, rfl, rfl, R, r1, r2, hm, q⟩ := h
  unfold bi2 at hm
  simp only at hm
  split at hm
  · rename_i i j
    cases hm
    cases r1
    cases r2
    refine call_min2 hc pins s σ S.H _ us Q I rs ⟨_, _, rfl, ?_⟩
    have := q S _ (Al.refl R) (show RepM c S .tmp (.val (.int (min i j))) (.int (min i j)) from rfl)
    rw [show (if j < i then j else i) = min i j by split <;> omega]
    exact this
  · cases hm
theorem b_max3 (hc : X.calm = true) : CallR X (.builtin "max") (R3c c (bi3 "max")) := by
  intro pins s σ H xs us Q I rs h
  obtain ⟨S, st, m1, m2, m3, x, y, z, m, rfl, rfl, R, r1, r2, r3, hm, q⟩ := h
  unfold bi3 at hm
  simp only at hm
  split at hm
  · rename_i i j k
    cases hm
    cases r1
    cases r2
    cases r3
    have fin := q S _ (Al.refl R) (show RepM c S .tmp (.val (.int (max (max i j) k))) (.int (max (max i j) k)) from rfl)
    cases rs with
    | cons ra rs =>
      cases rs with
      | cons rb rs =>
        cases rs with
        | cons rc rs =>
          cases rs
          obtain ⟨t1, rfl⟩ := ra
          obtain ⟨t2, rfl⟩ := rb
          obtain ⟨t3, rfl⟩ := rc
          refine PySem.max_three_ints (I.ok.hd hc) fun h' tk hk => ⟨.int (max (max i j) k), S.H, I.kept hk, ?_, fin⟩
          show ∃ t, _ = Value.int (max (max i j) k) t
          by_cases h1 : j > i
          · rw [if_pos h1]
            by_cases h2 : k > j
            · rw [if_pos h2]; exact ⟨t3, by rw [show max (max i j) k = k by omega]⟩
            · rw [if_neg h2]; exact ⟨t2, by rw [show max (max i j) k = j by omega]⟩
          · rw [if_neg h1]
            by_cases h2 : k > i
            · rw [if_pos h2]; exact ⟨t3, by rw [show max (max i j) k = k by omega]⟩
            · rw [if_neg h2]; exact ⟨t1, by rw [show max (max i j) k = i by omega]⟩
  · cases hm
end
end OI

/-! OIg1: max(xs, default=d), of ints. -/
namespace OI.Mx
open PySem PyProof.Rows
set_option maxRecDepth 100000
theorem args_kw (a v : Value) : argsOk "max" ⟨[a], [(Str.ofString "default", v)]⟩ := by unfold argsOk; kernel_rfl
section
variable {prog : Program} {w : World} {A : Around} {R : Result → Shared → Prop} {I : Addr} {fp wr : List Addr} {n : Nat} {P : Nat → Value → Prop} {St : Nat → Heap → Prop}
/-- what the list of the best one holds behind j items -/
def Held (bt : Nat → Nat → Bool) (P : Nat → Value → Prop) (j : Nat) (best : Array Value) : Prop := (j = 0 ∧ best = #[]) ∨ ∃ vb, 0 < j ∧ best = #[vb, vb] ∧ P (argBest bt (j - 1)) vb
theorem loop (W : Walks prog w A.in1 I fp wr n P St) (bt : Nat → Nat → Bool) (hcmp : CmpOf prog w A.in1 .Gt P bt) (S : Addr) (hSf : S ∉ fp) (d : Value) :
    ∀ (k j : Nat) (s : Shared) (best : Array Value) (c : Nat), n - j = k → j ≤ n → St j s.heap → Held bt P j best → s.heap.get? S = some { cls := .type "list", dict := none, data := .seq best c, slots := #[] } →
    (∀ v h' tk, ((n = 0 ∧ v = d) ∨ (0 < n ∧ P (argBest bt (n - 1)) v)) → (∀ b o, b ∉ wr → b ≠ S → s.heap.get? b = some o → h'.get? b = some o) → R (.ok (.ret v)) { s with heap := h', toks := tk }) →
    codeAny (model prog w) A (.builtin "max.loop" ⟨[.ref I, .none, .ref S], [(Str.ofString "default", d)]⟩) R s := by
  have hSw : S ∉ wr := fun h => hSf (W.sub _ h)
  have hname : (toString "max" ++ toString ".loop" : String) = "max.loop" := by decide
  intro k
  induction k with
  | zero =>
    intro j s best c hk hj hst hB hS hR
    have hin : j = n := by omega
    subst hin
    refine codeAny_builtin F.entry_max_loop ?_
    rw [Around.under_plainId F.plain_max_loop _]
    show wpAny _ A.in1 (seqItems? (.ref S) >>= _) _ _ s
    refine wpAny_bind (wpAny_seqItems hS rfl ?_)
    rcases hB with ⟨h0, rfl⟩ | ⟨vb, h0, rfl, hP⟩
    · show wpAny _ A.in1 (tryCatch (pyNext (.ref I)) _ >>= _) _ _ s
      refine wpAny_bind (wpAny_tryCatch (W.done s _ _ hst fun h' tk hk' => ?_))
      refine wpAny_bind (wpAny_rule ?_)
      exact wpAny_pure (hR d _ tk (.inl ⟨h0, rfl⟩) fun b o hbw _ e => hk' b o hbw e)
    · show wpAny _ A.in1 (tryCatch (pyNext (.ref I)) _ >>= _) _ _ s
      refine wpAny_bind (wpAny_tryCatch (W.done s _ _ hst fun h' tk hk' => ?_))
      have hS' := hk' S _ hSw hS
      show wpAny _ A.in1 (updateSeq S (fun _ => #[]) >>= _) _ _ _
      refine wpAny_bind ?_
      refine wpAny_updateSeq hS' rfl (wpAny_bind (wpAny_letGo (wpAny_pure ?_)))
      exact hR vb _ tk (.inr ⟨h0, hP⟩) fun b o hbw hbS e => (Heap.get?_update_other _ _ (Ne.symm hbS)).trans (hk' b o hbw e)
  | succ k ih =>
    intro j s best c hk hj hst hB hS hR
    have hlt : j < n := by omega
    refine codeAny_builtin F.entry_max_loop ?_
    rw [Around.under_plainId F.plain_max_loop _]
    show wpAny _ A.in1 (seqItems? (.ref S) >>= _) _ _ s
    refine wpAny_bind (wpAny_seqItems hS rfl ?_)
    have put : ∀ (v : Value) (h' : Heap) (tk : Nat), P (argBest bt j) v → St (j + 1) h' → (∀ b o, b ∉ wr → s.heap.get? b = some o → h'.get? b = some o) → ∀ c', (h'.update S (Obj.mapSeq fun _ => #[v, v])).get? S = some { cls := .type "list", dict := none, data := .seq #[v, v] c', slots := #[] } → codeAny (model prog w) A (.builtin "max.loop" ⟨[.ref I, .none, .ref S], [(Str.ofString "default", d)]⟩) R { s with heap := h'.update S (Obj.mapSeq fun _ => #[v, v]), toks := tk } := fun v h' tk hP hst' hk' c' hg => by
      refine ih (j + 1) _ #[v, v] _ (by omega) (by omega) (W.frame _ _ _ hst' fun b hbf o e => ?_) (.inr ⟨v, by omega, rfl, hP⟩) hg fun v' h'' tk'' hP' hk'' => ?_
      · exact (Heap.get?_update_other _ _ (fun h : S = b => hSf (by rw [h]; exact hbf))).trans e
      · exact hR v' h'' tk'' hP' fun b o hbw hbS e => hk'' b o hbw hbS ((Heap.get?_update_other _ _ (Ne.symm hbS)).trans (hk' b o hbw e))
    rcases hB with ⟨h0, rfl⟩ | ⟨vb, h0, rfl, hPb⟩
    · subst h0
      show wpAny _ A.in1 (tryCatch (pyNext (.ref I)) _ >>= _) _ _ s
      refine wpAny_bind (wpAny_tryCatch (W.item 0 s _ _ hlt hst fun v h' tk hP hst' hk' => ?_))
      have hS' := hk' S _ hSw hS
      show wpAny _ A.in1 (updateSeq S (fun _ => #[v, v]) >>= _) _ _ _
      refine wpAny_bind ?_
      refine wpAny_updateSeq hS' rfl ?_
      rw [hname]
      exact wpAny_pure ⟨plainId_quiet F.plain_max_loop _, put v h' tk hP hst' hk' _ (Heap.get?_update_self _ hS' rfl)⟩
    · show wpAny _ A.in1 (tryCatch (pyNext (.ref I)) _ >>= _) _ _ s
      refine wpAny_bind (wpAny_tryCatch (W.item j s _ _ hlt hst fun v h' tk hP hst' hk' => ?_))
      have hS' := hk' S _ hSw hS
      show wpAny _ A.in1 (tryCatch (holding [v, v] (richCompare .Gt v vb >>= _)) _ >>= _) _ _ _
      refine wpAny_bind (wpAny_tryCatch (wpAny_holding (wpAny_bind (hcmp j (argBest bt (j - 1)) v vb _ _ _ hP hPb ?_))))
      refine wpAny_bind (wpAny_holding (wpAny_truthy_bool ?_))
      refine wpAny_bind (wpAny_letGo (wpAny_pure ?_))
      have hj1 : argBest bt j = if bt j (argBest bt (j - 1)) then j else argBest bt (j - 1) := by
        obtain ⟨i, rfl⟩ : ∃ i, j = i + 1 := ⟨j - 1, by omega⟩
        rfl
      cases hb : bt j (argBest bt (j - 1)) with
      | true =>
        rw [hb, if_pos rfl] at hj1
        simp only [if_true]
        refine wpAny_bind ?_
        refine wpAny_updateSeq hS' rfl (wpAny_bind (wpAny_letGo ?_))
        rw [hname]
        exact wpAny_pure ⟨plainId_quiet F.plain_max_loop _, put v h' tk (by rw [hj1]; exact hP) hst' hk' _ (Heap.get?_update_self _ hS' rfl)⟩
      | false =>
        rw [hb, if_neg (by simp)] at hj1
        simp only [Bool.false_eq_true, if_false]
        refine wpAny_bind (wpAny_letGo ?_)
        rw [hname]
        refine wpAny_pure ⟨plainId_quiet F.plain_max_loop _, ih (j + 1) _ #[vb, vb] c (by omega) (by omega) hst' (.inr ⟨vb, by omega, rfl, ?_⟩) hS' fun v' h'' tk'' hP' hk'' => ?_⟩
        · show P (argBest bt j) vb
          rw [hj1]; exact hPb
        · exact hR v' h'' tk'' hP' fun b o hbw hbS e => hk'' b o hbw hbS (hk' b o hbw e)
end
section
variable {prog : Program} {w : World} {A : Around} {E : Value → Shared → Prop} {s : Shared} {l : Addr} {xs : Array (Int × Tok)}
theorem call_list {Q : Value → Shared → Prop} (d : Value) (hh : A.handled = none) (hl : s.heap.IsList l (intItems xs))
    (h : ∀ v h' tk, ((xs.size = 0 ∧ v = d) ∨ (0 < xs.size ∧ (intItems xs)[argBest (fun i j => decide (numAt xs i > numAt xs j)) (xs.size - 1)]? = some v)) → (∀ b o, s.heap.get? b = some o → h'.get? b = some o) → Q v { s with heap := h', toks := tk }) :
    wpAny (model prog w) A (call (.builtin "max") [.ref l] [(Str.ofString "default", d)]) Q E s := by
  have hname : (toString "max" ++ toString ".loop" : String) = "max.loop" := by decide
  refine kmk_tree F.kind_max F.plain_max F.entry_max (args_kw _ _) ?_
  show wpAny _ A.in1 (Builtin.Builtins.bindParams "max" ["key", "default"] 0 ⟨[], [(Str.ofString "default", d)]⟩ >>= _) _ _ s
  refine wpAny_bind (wpAny_of_eq (show Builtin.Builtins.bindParams "max" ["key", "default"] 0 ⟨[], [(Str.ofString "default", d)]⟩ = pure [none, some d] from rfl) ?_)
  refine wpAny_bind (wpAny_pure ?_)
  refine wpAny_bind (iter_intList hl fun s₂ e st hfp hlI => ?_)
  subst e
  refine wpAny_bind (wpAny_newObj_type ?_)
  have W := Walks.list (prog := prog) (w := w) (A := A.in1) hh s.heap.objs.size l hlI (intItems xs)
  have hsz : (intItems xs).size = xs.size := by simp [intItems]
  rw [hname]
  refine wpAny_pure ⟨plainId_quiet F.plain_max_loop _, loop W (fun i j => decide (numAt xs i > numAt xs j)) (CmpOf.ints_gt (numAt xs) (fun _ _ => intItems_at)) _ (fun hm => Nat.lt_irrefl _ (hfp _ hm)) d _ 0 _ #[] 0 rfl (Nat.zero_le _) (W.frame _ _ _ st fun b _ o e => Heap.get?_push_of_some _ e) (.inl ⟨rfl, rfl⟩) (Heap.get?_push_size _ rfl) fun v h' tk hP hk => ?_⟩
  rw [hsz] at hP
  refine h v h' tk hP ?_
  exact old_kept fun b o hbw e => hk b o hbw (Nat.ne_of_lt (Heap.lt_size e)) (Heap.get?_push_of_some _ e)
end
end OI.Mx

/-! OIh: dict(d), methods of built-in things, slices. -/
namespace OI
open PySem PySem.Spec PyProof.Rows L2
variable {c : Cn} {S : Wd} {s : Store}
def R1m (c : Cn) (k : M → M → Option M) : V → List V → Hp → VK → Prop := fun x xs H Q => ∃ S s m1 m2 y m, xs = [y] ∧ S.H = H ∧ RlS c S s ∧ RepV c S m1 x ∧ RepV c S m2 y ∧ k m1 m2 = some m ∧ ∀ S' v, Al S S' → RepM c S' .tmp m v → Q v S'.H
section
variable {X : Cx}
theorem RepKs.len2 {t : Bool} {kvs : List (D × D)} {vs : List V} (h : RepKs c S t kvs vs) : (kpairs kvs vs).length = kvs.length := by
  simp [kpairs, h.length]
theorem hl_dK (R : RlS c S s) {p : Addr} {kvs : List (D × D)} {vs : List V} (h : S.H p = some (dHO c p false (kvs.map (·.1)) vs)) : (kpairs kvs vs).length ≤ 16777216 := (R.hl p).2.2 _ h
theorem HLo.dK {kvs : List (Key × V)} (h : kvs.length ≤ 16777216) : HLo (.dK kvs) := ⟨fun _ e => (by cases e), fun _ e => (by cases e), fun _ e => (by cases e; exact h), fun _ _ e => (by cases e)⟩
theorem b_dict : CallR X (.type "dict") (R1c c (bi1 "dict")) := by
  intro pins s σ H xs us Q I rs h
  obtain ⟨S, st, m1, x, m, rfl, rfl, R, r1, hm, q⟩ := h
  unfold bi1 at hm
  simp only at hm
  split at hm
  · rename_i kvs e
    cases hm
    obtain ⟨p, vs, rfl, h1, h2⟩ := dic_of e r1
    rw [Vals.ref1 rs]
    refine d_copyOf I (.inl h1) fun a s' na I' => ?_
    have al := Al.lay R (q := some .tmp) na (.inr rfl) (HLo.dK (hl_dK R h1))
    exact ⟨.ref a, _, I', rfl, q _ _ al ⟨a, vs, rfl, put_H, put_ow, h2.mono al.fr⟩⟩
  · cases hm

/-! ### methods -/
theorem findIx_flat {d : D} {v : V} (hd : d.flat = true) (rd : RepD c S d v) : ∀ {ds : List D} {vs : List V} {i j : Nat}, ds.all D.flat = true → RepDs c S ds vs → findIx d ds i = some j →
    i ≤ j ∧ ∃ z, vs[j - i]? = some z ∧ eqV z v = true ∧ ∀ m z', m < j - i → vs[m]? = some z' → eqV z' v = false
  | [], _, _, _, _, _, h => by cases h
  | e :: ds, _, i, j, hf, ⟨w, r, q, h1, h2⟩, h => by
    subst q
    rw [List.all_cons, Bool.and_eq_true] at hf
    have hq := flat_eqv hf.1 hd h1 rd
    unfold findIx at h
    split at h
    · rename_i he
      cases h
      refine ⟨Nat.le_refl _, w, ?_, hq.trans he, fun m z' hm => ?_⟩
      · rw [Nat.sub_self]; rfl
      · rw [Nat.sub_self] at hm; exact absurd hm (Nat.not_lt_zero _)
    · rename_i he
      obtain ⟨l, z, g1, g2, g3⟩ := findIx_flat hd rd hf.2 h2 h
      refine ⟨by omega, z, ?_, g2, fun m z' hm hz => ?_⟩
      · rw [show j - i = (j - (i + 1)) + 1 by omega]
        simpa using g1
      · cases m with
        | zero =>
          cases hz
          rw [hq]
          simpa using he
        | succ m =>
          exact g3 m z' (by omega) (by simpa using hz)
theorem m_index (hK : X.K = c.K) : MtR X "list.index" (R1m c (bm1 "index")) := by
  intro pins s σ H x xs v us Q I rx rs h
  obtain ⟨S, st, m1, m2, y, m, rfl, rfl, R, r1, r2, hm, q⟩ := h
  unfold bm1 at hm
  simp only at hm
  split at hm
  · rename_i ys d e
    split at hm
    · rename_i hf
      rw [Bool.and_eq_true] at hf
      cases w : findIx d ys 0 with
      | none => rw [w] at hm; cases hm
      | some j =>
        rw [w] at hm
        cases hm
        obtain ⟨p, vs, rfl, h1, h2⟩ := lst_of e r1
        obtain ⟨_, z, g1, g2, g3⟩ := findIx_flat hf.1 r2 hf.2 h2 w
        exact mt_index pins s σ S.H _ _ v us Q I rx rs ⟨p, vs, y, j, z, rfl, rfl, by rw [hK]; exact h1, flat_V hf.1 r2, flats_V hf.2 h2, g1, g2, g3, q S _ (Al.refl R) rfl⟩
    · cases hm
  · cases hm
/-- a list of bools as data -/
theorem bools_at {its : List Value} : ∀ {ds : List D} {vs : List V} {us : List Value}, ds.all (fun y => match y with | .bl _ => true | _ => false) = true → RepDs c S ds vs → Vals vs us →
    ∃ bs : List Bool, ds = bs.map .bl ∧ us = bs.map Value.bool
  | [], _, _, _, h, r => by
    rw [show _ = [] from h] at r
    cases r
    exact ⟨[], rfl, rfl⟩
  | d :: ds, _, _, hf, ⟨w, r, q, h1, h2⟩, rv => by
    subst q
    rw [List.all_cons, Bool.and_eq_true] at hf
    cases rv with
    | cons ra rb =>
      obtain ⟨bs, e1, e2⟩ := bools_at (its := its) hf.2 h2 rb
      cases d with
      | bl b =>
        cases h1
        cases ra
        exact ⟨b :: bs, by rw [e1]; rfl, by rw [e2]; rfl⟩
      | _ => cases hf.1
theorem countP_bl (b : Bool) : ∀ bs : List Bool, (bs.map Value.bool).countP (isBoolOf b) = (bs.map D.bl).countP fun y => decide (y = .bl b)
  | [] => rfl
  | a :: bs => by
    rw [List.map_cons, List.map_cons, List.countP_cons, List.countP_cons, countP_bl b bs]
    congr 1
    cases a <;> cases b <;> rfl
theorem m_count (hK : X.K = c.K) : MtR X "list.count" (R1m c (bm1 "count")) := by
  intro pins s σ H x xs v us Q I rx rs h
  obtain ⟨S, st, m1, m2, y, m, rfl, rfl, R, r1, r2, hm, q⟩ := h
  unfold bm1 at hm
  simp only at hm
  split at hm
  · rename_i ys b e
    split at hm
    · rename_i hf
      cases hm
      obtain ⟨p, vs, rfl, h1, h2⟩ := lst_of e r1
      cases r2
      rw [← hK] at h1
      obtain ⟨its, rv, ⟨⟨cls, dd, data, sls⟩, n, ho, hc, hdn, hdt⟩, hlen⟩ := I.list h1
      simp only at hc hdt
      subst hc hdt
      obtain ⟨bs, rfl, rfl⟩ := bools_at (its := its) hf h2 rv
      cases rx
      cases rs with
      | cons ra rb =>
        cases rb
        cases ra
        have hq := q S _ (Al.refl R) (show RepM c S .tmp (.val (.int (((bs.map D.bl).countP fun y => decide (y = .bl b) : Nat) : Int))) (.int (((bs.map D.bl).countP fun y => decide (y = .bl b) : Nat) : Int)) from rfl)
        refine call_meets PySem.F.slot_list_count ⟨_, ho, rfl⟩ PySem.F.entry_list_count (PySem.F.args_list_count_2 _ _) (SeqAt.list_countAt p (bs.map Value.bool).toArray n dd sls (.bool b) (isBoolOf b)) ⟨ho, fun z hz => ?_, ?_⟩
        · obtain ⟨a, _, rfl⟩ := List.mem_map.mp (show z ∈ bs.map Value.bool by simpa using hz)
          exact SeqAt.EqAt.bool_bool a b
        · refine ⟨.int _, S.H, I.tok _, ⟨_, rfl⟩, ?_⟩
          rw [show ((bs.map Value.bool).toArray.toList) = bs.map Value.bool from rfl, countP_bl]
          exact hq
    · cases hm
  · cases hm
theorem m_join (hK : X.K = c.K) : MtR X "str.join" (R1m c (bm1 "join")) := by
  intro pins s σ H x xs v us Q I rx rs h
  obtain ⟨S, st, m1, m2, y, m, rfl, rfl, R, r1, r2, hm, q⟩ := h
  unfold bm1 at hm
  simp only at hm
  split at hm
  · rename_i z ys e
    split at hm
    · rename_i hl
      cases hm
      cases r1
      cases w : m2.lst? with
      | none => rw [w] at e; cases e
      | some ds =>
        rw [w] at e
        obtain ⟨p, vs, rfl, h1, h2⟩ := lst_of w r2
        have ev := strs_of (show strs? ds = some ys from e) h2
        subst ev
        exact mt_join pins s σ S.H _ _ v us Q I rx rs ⟨z, p, ys, rfl, rfl, .inl (by rw [hK]; exact h1), hl, q S _ (Al.refl R) rfl⟩
    · cases hm
  · cases hm
theorem m_split : MtR X "str.split" (R1m c (bm1 "split")) := by
  intro pins s σ H x xs v us Q I rx rs h
  obtain ⟨S, st, m1, m2, y, m, rfl, rfl, R, r1, r2, hm, q⟩ := h
  unfold bm1 at hm
  simp only at hm
  split at hm
  · rename_i z w
    split at hm
    · rename_i hl
      cases hm
      cases r1
      cases r2
      refine mt_split pins s σ S.H _ _ v us Q I rx rs ⟨z, w, rfl, rfl, by simpa using hl.1, lim_le hl.2, fun p np => ?_⟩
      have hz : (PySem.Txt.split z w).length ≤ 16777216 := Nat.le_trans (PyProof.Rows.split_le z w) hl.2
      obtain ⟨S', al, hH, rp⟩ := new_lst R np (RepDs.strs (PySem.Txt.split z w)) (by rw [List.length_map]; exact hz)
      have := q S' _ al rp
      rw [hH] at this
      exact this
    · cases hm
  · cases hm

/-! ### slices -/
def Rsl (c : Cn) : V → Option Int → Option Int → Hp → VK → Prop := fun x lo hi H Q => ∃ S s m1 m, S.H = H ∧ RlS c S s ∧ RepV c S m1 x ∧ slice m1 lo hi = some m ∧ ∀ S' v, Al S S' → RepM c S' .tmp m v → Q v S'.H
theorem cutD_rep {ds : List D} {vs : List V} (h : RepDs c S ds vs) (lo hi : Option Int) : RepDs c S (cutD ds lo hi) (cutV vs lo hi) := by
  unfold cutD cutV
  rw [h.length]
  exact (h.drop _).take _
theorem v_slice (hK : X.K = c.K) : SlR X (Rsl c) := by
  intro pins s σ H x v vl vu lo hi sl Q I rx hs pl pu h
  obtain ⟨S, st, m1, m, rfl, R, r1, hm, q⟩ := h
  unfold slice at hm
  split at hm
  · split at hm
    · rename_i z hl
      cases hm
      cases r1
      exact sl_str pins s σ S.H _ v vl vu lo hi sl Q I rx hs pl pu ⟨z, rfl, lim_le hl, q S _ (Al.refl R) rfl⟩
    · cases hm
  · rename_i xs
    cases hm
    obtain ⟨p, vs, rfl, h1, h2⟩ := r1
    refine sl_tupA pins s σ S.H _ v vl vu lo hi sl Q I rx hs pl pu ⟨p, vs, rfl, by rw [hK]; exact h1.sq, fun z => ?_, fun z a na => ?_⟩
    · refine q S _ (Al.refl R) ⟨p, vs, rfl, h1, ?_⟩
      have e : cutV vs lo hi = vs := by
        unfold cutV
        rw [z.1, z.2]
        simp
      have := cutD_rep h2 lo hi
      rw [e] at this
      exact this
    · obtain ⟨S', al, hH, rp⟩ := new_tup R na (cutD_rep h2 lo hi) (Nat.le_trans (cutV_length _ _ _) (len_le I hK (.inr h1.sq)))
      have := q S' _ al rp
      rw [hH] at this
      exact this
  · split at hm
    · rename_i xs e
      cases hm
      obtain ⟨p, vs, rfl, h1, h2⟩ := lst1_of e r1
      refine sl_list pins s σ S.H _ v vl vu lo hi sl Q I rx hs pl pu ⟨p, vs, rfl, SqL.of h1, fun a na => ?_⟩
      obtain ⟨S', al, hH, rp⟩ := new_lst R na (cutD_rep h2 lo hi) (Nat.le_trans (cutV_length _ _ _) (len_le I hK (.inl (SqL.of h1))))
      have := q S' _ al rp
      rw [hH] at this
      exact this
    · cases hm
end
end OI

/-! OIi: the lifts of expressions. -/
namespace OI
open PySem PySem.Spec PyProof.Rows L2

/-- nothing odd at the head -/
def plainE : Expr → Bool
  | .Set _ _ _ => false
  | .Starred _ _ => false
  | .Slice _ _ _ _ => false
  | .NamedExpr _ _ _ => false
  | .Call (.Name id _) [] [] _ => id != "super"
  | _ => true
theorem plain_marks {b : Expr} (h : plainE b = true) (op : CmpOp) : behindInMarks op b = false := by
  cases b <;> first | rfl | cases h
theorem plain_ix {b : Expr} (h : plainE b = true) : PlainIx b := by
  intro o i
  cases b <;> first | rfl | cases h
theorem plain_star {b : Expr} (h : plainE b = true) (r : List Expr) (env : PySem.Env) : starEach (b :: r) env = (false, eval b env) :: starEach r env := by
  cases b <;> first | rfl | cases h
theorem plain_fold {b : Expr} (h : plainE b = true) (env : PySem.Env) (x : Value) : foldedSetIterable b env x = pure x := by
  cases b <;> first | rfl | cases h
theorem plain_base {o : Expr} (h : plainE o = true) (f : Str) (env : PySem.Env) (w : Sem Value) : attributeBase o f env w = w := by
  unfold attributeBase
  split
  · rename_i id p pos
    have h' : (id != "super") = true := h
    rw [h', Bool.true_or, Bool.true_or, Bool.true_or]
    rfl
  · rfl

section
variable {X : Cx} {c : Cn} {W : WX} {R : Runs}
/-- both judgements of an expression -/
structure SE (X : Cx) (c : Cn) (W : WX) (a : Expr) (f : OI.Env → Store → Res (M × Pl)) : Prop where
  pe : PE X a (tE c W f)
  pt : PT X a (tT c W f)
  pw : ∀ op vs pos, a = .BoolOp op vs pos → PW X a (tT c W f)

/-- a test by its value -/
theorem pt_of_pe {a : Expr} {f : OI.Env → Store → Res (M × Pl)} (h : PE X a (tE c W f)) (he : ∀ whole, isTrue a X.env whole = (do let v ← whole; standAt a.pos; holding [v] (truthy v))) : PT X a (tT c W f) :=
  (pt_val h he).weak fun σ H Q q => by
    obtain ⟨S, e, s, rfl, Rr, p⟩ := q
    refine ⟨S, e, s, rfl, Rr, PostG.bind Rr.toRlS p fun x e1 s1 S1 v q1 R1 st1 rp1 p1 => ?_⟩
    unfold getB at p1
    split at p1
    · rename_i b hx
      have r := rp1.1
      rw [hx] at r
      exact ⟨b, r, p1 S1 b R1 (StE.refl S1 s1) rfl⟩
    · exact p1.elim
theorem one_ok {fa : OI.Env → Store → Res (M × Pl)} {k : M → OI.Env → Store → Res (M × Pl)} {σ : L2.St} {H : Hp} {Q : VK} {rest : V → Hp → Prop} (h : tE c W (one fa k) σ H Q)
    (hr : ∀ S e s m1 x, Rl c S e s σ → RepV c S m1 x → PostG c W σ S s (k m1 e s) (rM c σ) Q → rest x S.H) : tE c W fa σ H rest := by
  obtain ⟨S, e, s, rfl, Rr, p⟩ := h
  exact ⟨S, e, s, rfl, Rr, PostG.bind Rr.toRlS p fun x1 e1 s1 S1 v1 q1 R1 st1 rp1 p1 => hr S1 e1 s1 _ v1 R1 (bw_view R1.toRlS rp1.1) p1⟩
theorem testB_ok {fa : OI.Env → Store → Res (M × Pl)} {α β : Type} {k : Bool → OI.Env → Store → Res α} {rep : L2.St → Wd → Store → α → β → Prop} {σ : L2.St} {H : Hp} {Q : β → Hp → Prop} {rest : Bool → Hp → Prop} (h : tG c W (fun e s => (testB fa e s).bind k) rep σ H Q)
    (hr : ∀ S e s b, Rl c S e s σ → PostG c W σ S s (k b e s) (rep σ) Q → rest b S.H) : tT c W fa σ H rest := by
  obtain ⟨S, e, s, rfl, Rr, p⟩ := h
  refine ⟨S, e, s, rfl, Rr, PostG.bind Rr.toRlS p fun b e1 s1 S1 b' q1 R1 st1 rp1 p1 => ?_⟩
  cases rp1
  exact hr S1 e1 s1 b R1 p1
/-- a test's value: testB of what is a bool by itself -/
theorem testB_val {fa : OI.Env → Store → Res (M × Pl)} {σ : L2.St} {H : Hp} {Q : Bool → Hp → Prop} (h : tT c W fa σ H Q) : tE c W fa σ H fun x H1 => ∃ k, x = .bl k ∧ Q k H1 := by
  obtain ⟨S, e, s, rfl, Rr, p⟩ := h
  refine ⟨S, e, s, rfl, Rr, PostG.bind Rr.toRlS p fun x e1 s1 S1 v q1 R1 st1 rp1 p1 => ?_⟩
  unfold getB at p1
  split at p1
  · rename_i b hx
    have r := rp1.1
    rw [hx] at r
    exact ⟨b, r, p1 S1 b R1 (StE.refl S1 s1) rfl⟩
  · exact p1.elim

/-! ### simple ones -/
theorem s_neg {a : Expr} {ia : IE} {pos : Pos} (ha : PE X a (tE c W (ev R ia))) : PE X (.UnaryOp .USub a pos) (tE c W (ev R (.neg ia))) :=
  (pe_un un_neg ha).weak fun σ H Q q => one_ok q fun S e s m1 x Rr r1 p => by
    unfold negK at p
    split at p
    · exact ⟨_, r1, end_val Rr p rfl⟩
    · exact p.elim
theorem two_b {fa fb : OI.Env → Store → Res (M × Pl)} {k : M → M → Option Bool} {σ : L2.St} {H : Hp} {Q : VK} (h : tE c W (two fa fb fun x y => outB (k x y)) σ H Q) : tOp (R2b c k) (tE c W fa) (tE c W fb) σ H Q :=
  two_ok h fun S e s m1 m2 x y Rr r1 r2 p => by
    obtain ⟨b, hb, p⟩ := outB_ok p
    exact ⟨S, s, m1, m2, b, rfl, Rr.toRlS, r1, r2, hb, end_val Rr p rfl⟩
theorem s_cmp {op : COp} {o : CmpOp} {a b : Expr} {ia ib : IE} {pos : Pos} (ho : OpR X (compareOp o) (R2b c (cmp op))) (hb' : plainE b = true) (ha : PE X a (tE c W (ev R ia))) (hb : PE X b (tE c W (ev R ib))) : PE X (.Compare a [o] [b] pos) (tE c W (ev R (.cmp op ia ib))) :=
  (pe_cmpR ho ha hb (plain_marks hb' o)).weak fun σ H Q q => two_b q
theorem t_cmp {op : COp} {o : CmpOp} {a b : Expr} {ia ib : IE} {pos : Pos} (ho : OpR X (compareOp o) (R2b c (cmp op))) (hb' : plainE b = true) (ha : PE X a (tE c W (ev R ia))) (hb : PE X b (tE c W (ev R ib))) : PT X (.Compare a [o] [b] pos) (tT c W (ev R (.cmp op ia ib))) :=
  (pt_cmpR ho ha hb (plain_marks hb' o)).weak fun σ H Q q => two_b (testB_val q)
theorem isN_ok {n : Bool} {ia : IE} {σ : L2.St} {H : Hp} {Q : VK} (h : tE c W (ev R (.isN n ia)) σ H Q) : tE c W (ev R ia) σ H fun x H1 => Q (.bl (if n then !decide (x = .non) else decide (x = .non))) H1 := by
  obtain ⟨S, e, s, rfl, Rr, p⟩ := h
  refine ⟨S, e, s, rfl, Rr, PostG.bind Rr.toRlS p fun x1 e1 s1 S1 v1 q1 R1 st1 rp1 p1 => ?_⟩
  have key : decide ((bw x1.1 x1.2 s1).1 = .val .non) = decide (v1 = V.non) := by
    have r := bw_view R1.toRlS rp1.1
    generalize (bw x1.1 x1.2 s1).1 = m at r
    cases m with
    | val d =>
      cases d with
      | non => cases r; rfl
      | bl b => cases r; rfl
      | int b => cases r; rfl
      | str b => cases r; rfl
      | tup b => obtain ⟨p, vs, rfl, _⟩ := r; rfl
      | lst b => obtain ⟨p, vs, rfl, _⟩ := r; rfl
      | scr b => obtain ⟨p, rfl, _⟩ := r; rfl
      | dic t b => obtain ⟨p, vs, rfl, _⟩ := r; rfl
      | loc b => obtain ⟨p, rfl, _⟩ := r; rfl
      | exn b => obtain ⟨p, rfl, _⟩ := r; rfl
      | lam b b' => exact r.elim
    | ol b => obtain ⟨p, vs, rfl, _⟩ := r; rfl
    | od t b => obtain ⟨p, vs, rfl, _⟩ := r; rfl
  have := p1 S1 (.bl (if n then !decide ((bw x1.1 x1.2 s1).1 = .val .non) else decide ((bw x1.1 x1.2 s1).1 = .val .non))) R1 (StE.refl _ _) ⟨rfl, trivial⟩
  rw [key] at this
  exact this
theorem s_isN {ia : IE} {a : Expr} {j : Nat} {pos pos' : Pos} (ha : PE X a (tE c W (ev R ia))) : PE X (.Compare a [.Is] [.Constant .none j pos'] pos) (tE c W (ev R (.isN false ia))) :=
  (pe_cmpR op_isN ha pe_non rfl).weak fun σ H Q q => (isN_ok q : _) |> fun h => by
    obtain ⟨S, e, s, rfl, Rr, p⟩ := h
    exact ⟨S, e, s, rfl, Rr, p.mono fun y H h => ⟨rfl, h⟩⟩
theorem s_notN {ia : IE} {a : Expr} {j : Nat} {pos pos' : Pos} (ha : PE X a (tE c W (ev R ia))) : PE X (.Compare a [.IsNot] [.Constant .none j pos'] pos) (tE c W (ev R (.isN true ia))) :=
  (pe_cmpR op_notN ha pe_non rfl).weak fun σ H Q q => (isN_ok q : _) |> fun h => by
    obtain ⟨S, e, s, rfl, Rr, p⟩ := h
    exact ⟨S, e, s, rfl, Rr, p.mono fun y H h => ⟨rfl, h⟩⟩
theorem t_isN {ia : IE} {a : Expr} {j : Nat} {pos pos' : Pos} (ha : PE X a (tE c W (ev R ia))) : PT X (.Compare a [.Is] [.Constant .none j pos'] pos) (tT c W (ev R (.isN false ia))) :=
  (pt_cmpR op_isN ha pe_non rfl).weak fun σ H Q q => (isN_ok (testB_val q) : _) |> fun h => by
    obtain ⟨S, e, s, rfl, Rr, p⟩ := h
    exact ⟨S, e, s, rfl, Rr, p.mono fun y H h => ⟨rfl, h⟩⟩
theorem t_notN {ia : IE} {a : Expr} {j : Nat} {pos pos' : Pos} (ha : PE X a (tE c W (ev R ia))) : PT X (.Compare a [.IsNot] [.Constant .none j pos'] pos) (tT c W (ev R (.isN true ia))) :=
  (pt_cmpR op_notN ha pe_non rfl).weak fun σ H Q q => (isN_ok (testB_val q) : _) |> fun h => by
    obtain ⟨S, e, s, rfl, Rr, p⟩ := h
    exact ⟨S, e, s, rfl, Rr, p.mono fun y H h => ⟨rfl, h⟩⟩
theorem isB_ok {n b : Bool} {ia : IE} {σ : L2.St} {H : Hp} {Q : VK} (h : tE c W (ev R (.isB n ia b)) σ H Q) : tE c W (ev R ia) σ H fun x H1 => ∃ a, x = .bl a ∧ Q (.bl (if n then !decide (a = b) else decide (a = b))) H1 := by
  refine one_ok h fun S e s m1 x Rr r1 p => ?_
  unfold isBK at p
  split at p
  · rename_i a
    refine ⟨a, r1, ?_⟩
    have := end_val Rr p (show RepD c S (.bl (if n then !(a == b) else a == b)) (.bl (if n then !(a == b) else a == b)) from rfl)
    rw [show decide (a = b) = (a == b) by cases a <;> cases b <;> rfl]
    exact this
  · exact p.elim
theorem s_isB {ia : IE} {a : Expr} {b : Bool} {j : Nat} {pos pos' : Pos} (ha : PE X a (tE c W (ev R ia))) : PE X (.Compare a [.Is] [.Constant (.bool b) j pos'] pos) (tE c W (ev R (.isB false ia b))) :=
  (pe_cmpR op_isBl ha pe_bl rfl).weak fun σ H Q q => (isB_ok q : _) |> fun h => by
    obtain ⟨S, e, s, rfl, Rr, p⟩ := h
    exact ⟨S, e, s, rfl, Rr, p.mono fun y H ⟨a, e, h⟩ => ⟨a, b, e, rfl, h⟩⟩
theorem s_notB {ia : IE} {a : Expr} {b : Bool} {j : Nat} {pos pos' : Pos} (ha : PE X a (tE c W (ev R ia))) : PE X (.Compare a [.IsNot] [.Constant (.bool b) j pos'] pos) (tE c W (ev R (.isB true ia b))) :=
  (pe_cmpR op_notBl ha pe_bl rfl).weak fun σ H Q q => (isB_ok q : _) |> fun h => by
    obtain ⟨S, e, s, rfl, Rr, p⟩ := h
    exact ⟨S, e, s, rfl, Rr, p.mono fun y H ⟨a, e, h⟩ => ⟨a, b, e, rfl, h⟩⟩
theorem t_isB {ia : IE} {a : Expr} {b : Bool} {j : Nat} {pos pos' : Pos} (ha : PE X a (tE c W (ev R ia))) : PT X (.Compare a [.Is] [.Constant (.bool b) j pos'] pos) (tT c W (ev R (.isB false ia b))) :=
  (pt_cmpR op_isBl ha pe_bl rfl).weak fun σ H Q q => (isB_ok (testB_val q) : _) |> fun h => by
    obtain ⟨S, e, s, rfl, Rr, p⟩ := h
    exact ⟨S, e, s, rfl, Rr, p.mono fun y H ⟨a, e, h⟩ => ⟨a, b, e, rfl, h⟩⟩
theorem t_notB {ia : IE} {a : Expr} {b : Bool} {j : Nat} {pos pos' : Pos} (ha : PE X a (tE c W (ev R ia))) : PT X (.Compare a [.IsNot] [.Constant (.bool b) j pos'] pos) (tT c W (ev R (.isB true ia b))) :=
  (pt_cmpR op_notBl ha pe_bl rfl).weak fun σ H Q q => (isB_ok (testB_val q) : _) |> fun h => by
    obtain ⟨S, e, s, rfl, Rr, p⟩ := h
    exact ⟨S, e, s, rfl, Rr, p.mono fun y H ⟨a, e, h⟩ => ⟨a, b, e, rfl, h⟩⟩

/-! ### and, or, not, if -/
theorem both_ok {ia ib : IE} {σ : L2.St} {H : Hp} {Q : VK} (h : tE c W (ev R (.both ia ib)) σ H Q) : tT c W (ev R ia) σ H fun k H1 => if k = true then tE c W (ev R ib) σ H1 Q else Q (.bl false) H1 := by
  refine testB_ok (k := fun c => bothK c (ev R ib)) (rep := rM c) h fun S e s b Rr p => ?_
  cases b with
  | true => exact ⟨S, e, s, rfl, Rr, p⟩
  | false => exact end_val Rr p rfl
theorem either_ok {ia ib : IE} {σ : L2.St} {H : Hp} {Q : VK} (h : tE c W (ev R (.either ia ib)) σ H Q) : tT c W (ev R ia) σ H fun k H1 => if k = true then Q (.bl true) H1 else tE c W (ev R ib) σ H1 Q := by
  refine testB_ok (k := fun c => eitherK c (ev R ib)) (rep := rM c) h fun S e s b Rr p => ?_
  cases b with
  | true => exact end_val Rr p rfl
  | false => exact ⟨S, e, s, rfl, Rr, p⟩
theorem Res.bind_bind {α β γ : Type} (r : Res α) (f : α → OI.Env → Store → Res β) (g : β → OI.Env → Store → Res γ) : (r.bind f).bind g = r.bind fun a e s => (f a e s).bind g := by
  cases r <;> rfl
theorem test_both (ia ib : IE) (e : OI.Env) (s : Store) : testB (ev R (.both ia ib)) e s = (testB (ev R ia) e s).bind fun k e s => if k = true then testB (ev R ib) e s else .ok false e s := by
  show ((testB (ev R ia) e s).bind fun k => bothK k (ev R ib)).bind _ = _
  rw [Res.bind_bind]
  congr 1
  funext k e1 s1
  cases k <;> rfl
theorem test_either (ia ib : IE) (e : OI.Env) (s : Store) : testB (ev R (.either ia ib)) e s = (testB (ev R ia) e s).bind fun k e s => if k = true then .ok true e s else testB (ev R ib) e s := by
  show ((testB (ev R ia) e s).bind fun k => eitherK k (ev R ib)).bind _ = _
  rw [Res.bind_bind]
  congr 1
  funext k e1 s1
  cases k <;> rfl
theorem test_not (ia : IE) (e : OI.Env) (s : Store) : testB (ev R (.nott ia)) e s = (testB (ev R ia) e s).bind fun k e s => .ok (!k) e s := by
  show ((testB (ev R ia) e s).bind fun k => okB (!k)).bind _ = _
  rw [Res.bind_bind]
  rfl
theorem both_t {ia ib : IE} {σ : L2.St} {H : Hp} {Q : Bool → Hp → Prop} (h : tT c W (ev R (.both ia ib)) σ H Q) : tT c W (ev R ia) σ H fun k H1 => if k = true then tT c W (ev R ib) σ H1 Q else Q false H1 := by
  obtain ⟨S, e, s, rfl, Rr, p⟩ := h
  rw [test_both] at p
  refine ⟨S, e, s, rfl, Rr, PostG.bind Rr.toRlS p fun k e1 s1 S1 k' q1 R1 st1 rp1 p1 => ?_⟩
  cases rp1
  cases k with
  | true => exact ⟨S1, e1, s1, rfl, R1, p1⟩
  | false => exact p1 S1 false R1 (StE.refl S1 s1) rfl
theorem either_t {ia ib : IE} {σ : L2.St} {H : Hp} {Q : Bool → Hp → Prop} (h : tT c W (ev R (.either ia ib)) σ H Q) : tT c W (ev R ia) σ H fun k H1 => if k = true then Q true H1 else tT c W (ev R ib) σ H1 Q := by
  obtain ⟨S, e, s, rfl, Rr, p⟩ := h
  rw [test_either] at p
  refine ⟨S, e, s, rfl, Rr, PostG.bind Rr.toRlS p fun k e1 s1 S1 k' q1 R1 st1 rp1 p1 => ?_⟩
  cases rp1
  cases k with
  | true => exact p1 S1 true R1 (StE.refl S1 s1) rfl
  | false => exact ⟨S1, e1, s1, rfl, R1, p1⟩
section
variable {a b : Expr} {rest : List Expr} {ia ib : IE} {pos : Pos}
theorem and_last (h : SE X c W a (ev R ia)) : SE X c W (.BoolOp .And [a] pos) (ev R ia) := ⟨pe_one h.pe, (pw_and1 h.pt).pt, fun op vs p e => by cases e; exact pw_and1 h.pt⟩
theorem or_last (h : SE X c W a (ev R ia)) : SE X c W (.BoolOp .Or [a] pos) (ev R ia) := ⟨pe_one h.pe, (pw_or1 h.pt).pt, fun op vs p e => by cases e; exact pw_or1 h.pt⟩
/-- a bool's value, as the next operand asks it -/
theorem tE_bool {fa : OI.Env → Store → Res (M × Pl)} {σ : L2.St} {H : Hp} {Q : Bool → Hp → Prop} (h : tT c W fa σ H Q) : tE c W fa σ H fun x H1 => ∃ k, x = .bl k ∧ Q k H1 := testB_val h
theorem s_both (ha : SE X c W a (ev R ia)) (hb : SE X c W (.BoolOp .And (b :: rest) pos) (ev R ib)) : SE X c W (.BoolOp .And (a :: b :: rest) pos) (ev R (.both ia ib)) :=
  have pw : PW X (.BoolOp .And (a :: b :: rest) pos) (tT c W (ev R (.both ia ib))) := ⟨fun wh pins s σ H Q I q => (pw_and ha.pt (hb.pw _ _ _ rfl)).run wh pins s σ H Q I (both_t q)⟩
  ⟨(pe_and ha.pe hb.pe).weak fun σ H Q q => tE_bool (both_ok q), pw.pt, fun op vs p e => by cases e; exact pw⟩
theorem s_either (ha : SE X c W a (ev R ia)) (hb : SE X c W (.BoolOp .Or (b :: rest) pos) (ev R ib)) : SE X c W (.BoolOp .Or (a :: b :: rest) pos) (ev R (.either ia ib)) :=
  have pw : PW X (.BoolOp .Or (a :: b :: rest) pos) (tT c W (ev R (.either ia ib))) := ⟨fun wh pins s σ H Q I q => (pw_or ha.pt (hb.pw _ _ _ rfl)).run wh pins s σ H Q I (either_t q)⟩
  ⟨(pe_or ha.pe hb.pe).weak fun σ H Q q => tE_bool (either_ok q), pw.pt, fun op vs p e => by cases e; exact pw⟩
theorem s_not (ha : SE X c W a (ev R ia)) : SE X c W (.UnaryOp .Not a pos) (ev R (.nott ia)) := by
  refine ⟨(pe_not ha.pe).weak fun σ H Q q => tE_bool (testB_ok (k := fun k => okB (!k)) (rep := rM c) q fun S e s b Rr p => end_val Rr p rfl), (pt_not ha.pt).weak fun σ H Q q => ?_, fun op vs p e => by cases e⟩
  obtain ⟨S, e, s, rfl, Rr, p⟩ := q
  rw [test_not] at p
  refine ⟨S, e, s, rfl, Rr, PostG.bind Rr.toRlS p fun k e1 s1 S1 k' q1 R1 st1 rp1 p1 => ?_⟩
  cases rp1
  exact p1 S1 (!k) R1 (StE.refl S1 s1) rfl
/-- a value, as it may be handed on: whose it was is settled -/
theorem vl_ok {α β : Type} {x : M × Pl} {v : V} {σ : L2.St} {S : Wd} {e : OI.Env} {s : Store} {k : M → OI.Env → Store → Res α} {rep : Wd → Store → α → β → Prop} {Q : β → Hp → Prop} {G : Prop} (Rr : Rl c S e s σ) (rp : rM c σ S s x v)
    (h : PostG c W σ S s ((vl x.1 x.2 e s).bind k) rep Q) (g : ∀ S1 m e1, Rl c S1 e1 s σ → StE S S1 s s → S1.H = S.H → RepM c S1 .tmp m v → PostG c W σ S1 s (k m e1 s) rep Q → G) : G := by
  obtain ⟨m, pl⟩ := x
  obtain ⟨r1, r2⟩ := rp
  have other : ∀ (hm : m.isVal = false), G := fun hm => by
    dsimp only at h
    cases pl with
    | slot i =>
      have e0 : vl m (.slot i) e s = .ok (.val m.frz) (e.set i (some (.val m.frz))) s := by
        cases m <;> first | rfl | cases hm
      rw [e0] at h
      have hlt : i < e.length := by
        rw [Rr.elen]
        exact (List.getElem?_eq_some_iff.mp r2).1
      obtain ⟨S1, R1, hH, hd, st⟩ := Rr.frzSlot hm r2 r1 hlt
      exact g S1 (.val m.frz) _ R1 st hH hd (PostG.shift Rr.toRlS st h)
    | tmp =>
      have e0 : vl m .tmp e s = .ok m e s := by
        cases m <;> first | rfl | cases hm
      rw [e0] at h
      exact g S m e Rr (StE.refl S s) rfl r1 h
    | fld n f =>
      have e0 : vl m (.fld n f) e s = .bad := by
        cases m <;> first | rfl | cases hm
      rw [e0] at h
      exact h.elim
    | obj n => exact r2.elim
    | oth => exact r2.elim
  cases m with
  | val d => exact g S (.val d) e Rr (StE.refl S s) rfl r1 h
  | ol xs => exact other rfl
  | od t kvs => exact other rfl
end
end
end OI

/-! OIj: values handed on, argument lists, displays, subscripts, slices, attributes. -/
namespace OI
open PySem PySem.Spec PyProof.Rows L2
def IEs.len : IEs → Nat
  | .nil => 0
  | .cons _ r => r.len + 1
def IPs.len : IPs → Nat
  | .nil => 0
  | .cons _ _ r => r.len + 1
section
variable {X : Cx} {c : Cn} {W : WX} {R : Runs}
theorem evs_len : ∀ {es : IEs} {e e' : OI.Env} {s s' : Store} {ds : List D}, evs R es e s = .ok ds e' s' → ds.length = es.len
  | .nil, _, _, _, _, _, h => by
    have h : Res.ok [] _ _ = Res.ok _ _ _ := h
    cases h
    rfl
  | .cons a r, e, e', s, s', ds, h => by
    have h : (valD (ev R a) e s).bind (fun d e1 s1 => (evs R r e1 s1).bind fun ds e2 s2 => .ok (d :: ds) e2 s2) = .ok ds e' s' := h
    cases w : valD (ev R a) e s with
    | ok d e1 s1 =>
      rw [w] at h
      have h : (evs R r e1 s1).bind (fun ds e2 s2 => .ok (d :: ds) e2 s2) = .ok ds e' s' := h
      cases w2 : evs R r e1 s1 with
      | ok ds2 e2 s2 =>
        rw [w2] at h
        have h : Res.ok (d :: ds2) e2 s2 = .ok ds e' s' := h
        cases h
        rw [List.length_cons, evs_len w2]
        rfl
      | err k e1 s1 => rw [w2] at h; cases h
      | bad => rw [w2] at h; cases h
    | err k e1 s1 => rw [w] at h; cases h
    | bad => rw [w] at h; cases h
/-- an operand's value as data -/
theorem valD_ok {α β : Type} {fa : OI.Env → Store → Res (M × Pl)} {k : D → OI.Env → Store → Res α} {rep : L2.St → Wd → Store → α → β → Prop} {σ : L2.St} {Q : β → Hp → Prop} {rest : V → Hp → Prop} {S : Wd} {e : OI.Env} {s : Store} (Rr : Rl c S e s σ)
    (h : PostG c W σ S s ((valD fa e s).bind k) (rep σ) Q) (hr : ∀ S1 e1 s1 d v, Rl c S1 e1 s1 σ → StE S S1 s s1 → RepD c S1 d v → PostG c W σ S1 s1 (k d e1 s1) (rep σ) Q → rest v S1.H) : tE c W fa σ S.H rest := by
  unfold valD at h
  rw [Res.bind_bind] at h
  refine ⟨S, e, s, rfl, Rr, PostG.bind Rr.toRlS h fun x e1 s1 S1 v q1 R1 st1 rp1 p1 => ?_⟩
  rw [Res.bind_bind] at p1
  refine vl_ok (rep := rep σ) R1 rp1 p1 fun S2 m e2 R2 st2 hH rp2 p2 => ?_
  obtain ⟨S3, R3, hH3, hd, st3⟩ := frz_ste R2 rp2
  rw [← hH, ← hH3]
  exact hr S3 e2 s1 m.frz v R3 ((st1.trans Rr.dom st2).trans Rr.dom st3) hd (PostG.shift R2.toRlS st3 p2)
/-- .. or as what it is -/
theorem valM_ok {α β : Type} {fa : OI.Env → Store → Res (M × Pl)} {k : M → OI.Env → Store → Res α} {rep : L2.St → Wd → Store → α → β → Prop} {σ : L2.St} {Q : β → Hp → Prop} {rest : V → Hp → Prop} {S : Wd} {e : OI.Env} {s : Store} (Rr : Rl c S e s σ)
    (h : PostG c W σ S s ((valM fa e s).bind k) (rep σ) Q) (hr : ∀ S1 e1 s1 m v, Rl c S1 e1 s1 σ → StE S S1 s s1 → RepM c S1 .tmp m v → PostG c W σ S1 s1 (k m e1 s1) (rep σ) Q → rest v S1.H) : tE c W fa σ S.H rest := by
  unfold valM at h
  rw [Res.bind_bind] at h
  refine ⟨S, e, s, rfl, Rr, PostG.bind Rr.toRlS h fun x e1 s1 S1 v q1 R1 st1 rp1 p1 => ?_⟩
  refine vl_ok (rep := rep σ) R1 rp1 p1 fun S2 m e2 R2 st2 hH rp2 p2 => ?_
  rw [← hH]
  exact hr S2 e2 s1 m v R2 (st1.trans Rr.dom st2) rp2 p2
theorem s_nil : PA X [] (tA c W (evs R .nil)) := pa_nil.weak fun σ H Q q => by
  obtain ⟨S, e, s, rfl, Rr, p⟩ := q
  exact p S [] Rr (StE.refl S s) rfl
theorem s_cons {a : Expr} {as : List Expr} {ia : IE} {ias : IEs} (hp : plainE a = true) (ha : PE X a (tE c W (ev R ia))) (hr : PA X as (tA c W (evs R ias))) : PA X (a :: as) (tA c W (evs R (.cons ia ias))) :=
  (pa_cons ha hr (plain_star hp as X.env)).weak fun σ H Q q => by
    obtain ⟨S, e, s, rfl, Rr, p⟩ := q
    refine valD_ok (rep := fun _ => rDs c) Rr p fun S1 e1 s1 d v R1 st1 rd p1 => ?_
    refine ⟨S1, e1, s1, rfl, R1, PostG.bind R1.toRlS p1 fun ds e2 s2 S2 vs q2 R2 st2 rds p2 => ?_⟩
    exact p2 S2 (v :: vs) R2 (StE.refl S2 s2) ⟨v, vs, rfl, rd.mono st2.toFr, rds⟩
theorem args_ok {α β : Type} {ias : IEs} {k : List D → OI.Env → Store → Res α} {rep : L2.St → Wd → Store → α → β → Prop} {σ : L2.St} {H : Hp} {Q : β → Hp → Prop} {rest : List V → Hp → Prop} (h : tG c W (fun e s => (evs R ias e s).bind k) rep σ H Q)
    (hr : ∀ S e s ds vs, Rl c S e s σ → RepDs c S ds vs → ds.length = ias.len → PostG c W σ S s (k ds e s) (rep σ) Q → rest vs S.H) : tA c W (evs R ias) σ H rest := by
  obtain ⟨S, e, s, rfl, Rr, p⟩ := h
  exact ⟨S, e, s, rfl, Rr, PostG.bind Rr.toRlS p fun ds e1 s1 S1 vs q1 R1 st1 rp1 p1 => hr S1 e1 s1 ds vs R1 rp1 (evs_len q1) p1⟩
theorem s_tup {as : List Expr} {ias : IEs} {x1 : Nat} {pos : Pos} (hn : ias.len ≤ 16777216) (h : PA X as (tA c W (evs R ias))) : PE X (.Tuple as x1 pos) (tE c W (ev R (.tup ias))) :=
  (pe_tup h).weak fun σ H Q q => args_ok (k := fun ds => okV (.tup ds)) (rep := rM c) q fun S e s ds vs Rr r hl p => by
    have hv : vs.length ≤ 16777216 := by rw [r.length, hl]; exact hn
    refine ⟨by rw [sizeLine_eq]; exact hv, fun a na => ?_⟩
    obtain ⟨S', al, hH, rp⟩ := new_tup Rr.toRlS na r hv
    have := end_al Rr p al rp
    rw [hH] at this
    exact this
theorem s_lst {as : List Expr} {ias : IEs} {pos : Pos} (hn : ias.len ≤ 16777216) (h : PA X as (tA c W (evs R ias))) : PE X (.List as pos) (tE c W (ev R (.lst ias))) :=
  (pe_lst h).weak fun σ H Q q => args_ok (k := lstK) (rep := rM c) q fun S e s ds vs Rr r hl p => by
    have hv : vs.length ≤ 16777216 := by rw [r.length, hl]; exact hn
    refine ⟨by rw [sizeLine_eq]; exact hv, fun a na => ?_⟩
    obtain ⟨S', al, hH, rp⟩ := new_lst Rr.toRlS na r hv
    have := end_al Rr p al rp
    rw [hH] at this
    exact this
theorem s_idx {a b : Expr} {ia ib : IE} {pos : Pos} (hK : X.K = c.K) (hu : X.A.units + 65 < cLine) (hb' : plainE b = true) (ha : PE X a (tE c W (ev R ia))) (hb : PE X b (tE c W (ev R ib))) : PE X (.Subscript a b pos) (tE c W (ev R (.idx ia ib))) :=
  (pe_ix (v_index hK hu) ha hb (plain_ix hb')).weak fun σ H Q q => two_ok q fun S e s m1 m2 x y Rr r1 r2 p => by
    unfold outD at p
    split at p
    · rename_i d hd
      exact ⟨S, s, m1, m2, d, rfl, Rr.toRlS, r1, r2, hd, fun v rd => end_val Rr p rd⟩
    · exact p.elim
/-! slices -/
def tO (c : Cn) (W : WX) (f : OI.Env → Store → Res (Option Int)) : TO := tG c W f fun _ _ _ a b => a = b
theorem s_no : PO X none (tO c W (evo R .no)) :=
  ⟨fun pins s σ H Q I h => by
    obtain ⟨S, e, s', rfl, Rr, p⟩ := h
    exact po_none.run pins s σ S.H Q I (p S none Rr (StE.refl _ _) rfl)⟩
theorem s_yes {a : Expr} {ia : IE} (ha : PE X a (tE c W (ev R ia))) : PO X (some a) (tO c W (evo R (.yes ia))) :=
  ⟨fun pins s σ H Q I h => by
    obtain ⟨S, e, s', rfl, Rr, p⟩ := h
    refine (po_some ha).run pins s σ S.H Q I ⟨S, e, s', rfl, Rr, PostG.bind Rr.toRlS p fun x e1 s1 S1 v q1 R1 st1 rp1 p1 => ?_⟩
    unfold partK at p1
    split at p1
    · rename_i i hx
      have r := rp1.1
      rw [hx] at r
      exact ⟨i, r, p1 S1 (some i) R1 (StE.refl _ _) rfl⟩
    · exact p1.elim⟩
theorem s_slc {a : Expr} {lo hi : Option Expr} {ia : IE} {il ih : IO} {p2 pos : Pos} (hK : X.K = c.K) (ha : PE X a (tE c W (ev R ia))) (hl : PO X lo (tO c W (evo R il))) (hh : PO X hi (tO c W (evo R ih))) : PE X (.Subscript a (.Slice lo hi none p2) pos) (tE c W (ev R (.slc ia il ih))) :=
  (pe_slice (v_slice hK) ha hl hh).weak fun σ H Q q => by
    obtain ⟨S, e, s, rfl, Rr, p⟩ := q
    refine ⟨S, e, s, rfl, Rr, PostG.bind Rr.toRlS p fun x e1 s1 S1 v1 q1 R1 st1 rp1 p1 => ?_⟩
    obtain ⟨S1', pl', R1', hH, ham, rp1', hpl, hbw, _, st1'⟩ := pend R1 rp1.1
    replace p1 := PostG.shift R1.toRlS st1' p1
    refine ⟨S1', e1, s1, hH, R1', PostG.bind R1'.toRlS p1 fun l e2 s2 S2 vl q2 R2 st2 rp2 p2 => ?_⟩
    refine ⟨S2, e2, s2, rfl, R2, PostG.bind R2.toRlS p2 fun h e3 s3 S3 vh q3 R3 st3 rp3 p3 => ?_⟩
    subst rp2 rp3
    unfold slcK at p3
    rw [← hbw] at p3
    split at p3
    · rename_i hs
      obtain ⟨m, hm, p3⟩ := out_ok p3
      exact ⟨S3, s3, _, m, rfl, R3.toRlS, bw_keep R1'.toRlS rp1' hpl (st2.trans R1'.dom st3) hs, hm, fun S' v al rp => end_al R3 p3 al rp⟩
    · exact p3.elim
end
end OI

/-! OIk: built-ins, conditionals, isinstance, calls of defs. -/
namespace OI
open PySem PySem.Spec PyProof.Rows L2

/-! ### built-ins -/
section
variable {X : Cx} {c : Cn} {W : WX} {R : Runs}
theorem three_ok {fa fb fc : OI.Env → Store → Res (M × Pl)} {k : M → M → M → OI.Env → Store → Res (M × Pl)} {σ : L2.St} {H : Hp} {Q : VK} {rest : V → V → V → Hp → Prop} (h : tE c W (three fa fb fc k) σ H Q)
    (hr : ∀ S e s m1 m2 m3 x y z, Rl c S e s σ → RepV c S m1 x → RepV c S m2 y → RepV c S m3 z → PostG c W σ S s (k m1 m2 m3 e s) (rM c σ) Q → rest x y z S.H) :
    tE c W fa σ H fun x H1 => tE c W fb σ H1 fun y H2 => tE c W fc σ H2 fun z H3 => rest x y z H3 := by
  obtain ⟨S, e, s, rfl, Rr, p⟩ := h
  refine ⟨S, e, s, rfl, Rr, PostG.bind Rr.toRlS p fun x1 e1 s1 S1 v1 q1 R1 st1 rp1 p1 => ?_⟩
  obtain ⟨S1', pl', R1', hH, ham, rp1', hpl, hbw, _, st1'⟩ := pend R1 rp1.1
  replace p1 := PostG.shift R1.toRlS st1' p1
  refine ⟨S1', e1, s1, hH, R1', PostG.bind R1'.toRlS p1 fun x2 e2 s2 S2 v2 q2 R2 st2 rp2 p2 => ?_⟩
  obtain ⟨S2', pl2', R2', hH2, ham2, rp2', hpl2, hbw2, _, st2'⟩ := pend R2 rp2.1
  replace p2 := PostG.shift R2.toRlS st2' p2
  refine ⟨S2', e2, s2, hH2, R2', PostG.bind R2'.toRlS p2 fun x3 e3 s3 S3 v3 q3 R3 st3 rp3 p3 => ?_⟩
  split at p3
  · rename_i hs
    rw [Bool.and_eq_true] at hs
    obtain ⟨hs1, hs2⟩ := hs
    rw [← hbw] at hs1 p3
    rw [← hbw2] at hs2 p3
    exact hr S3 e3 s3 _ _ _ v1 v2 v3 R3 (bw_keep R1'.toRlS rp1' hpl ((st2.trans R1'.dom st2').trans R1'.dom st3) hs1) (bw_keep R2'.toRlS rp2' hpl2 st3 hs2) (bw_view R3.toRlS rp3.1) p3
  · exact p3.elim
variable {x : Str} {id T : String} {p pos : Pos} {a a2 a3 : Expr} {ia ib ic : IE} {f : String}
theorem one_R1 {fa : OI.Env → Store → Res (M × Pl)} {k : M → Option M} {σ : L2.St} {H : Hp} {Q : VK} (h : tE c W (one fa fun x => out (k x)) σ H Q) : tCB (R1c c k) (tCons (tE c W fa) tNil) σ H Q :=
  one_ok h fun S e s m1 x Rr r1 p => by
    obtain ⟨m, hm, p⟩ := out_ok p
    exact ⟨S, s, m1, x, m, rfl, rfl, Rr.toRlS, r1, hm, fun S' v al rp => end_al Rr p al rp⟩
theorem two_R2c {fa fb : OI.Env → Store → Res (M × Pl)} {k : M → M → Option M} {σ : L2.St} {H : Hp} {Q : VK} (h : tE c W (two fa fb fun x y => out (k x y)) σ H Q) : tCB (R2c c k) (tCons (tE c W fa) (tCons (tE c W fb) tNil)) σ H Q :=
  two_ok h fun S e s m1 m2 x y Rr r1 r2 p => by
    obtain ⟨m, hm, p⟩ := out_ok p
    exact ⟨S, s, m1, m2, x, y, m, rfl, rfl, Rr.toRlS, r1, r2, hm, fun S' v al rp => end_al Rr p al rp⟩
theorem three_R3c {fa fb fc : OI.Env → Store → Res (M × Pl)} {k : M → M → M → Option M} {σ : L2.St} {H : Hp} {Q : VK} (h : tE c W (three fa fb fc fun x y z => out (k x y z)) σ H Q) : tCB (R3c c k) (tCons (tE c W fa) (tCons (tE c W fb) (tCons (tE c W fc) tNil))) σ H Q :=
  three_ok h fun S e s m1 m2 m3 x y z Rr r1 r2 r3 p => by
    obtain ⟨m, hm, p⟩ := out_ok p
    exact ⟨S, s, m1, m2, m3, x, y, z, m, rfl, rfl, Rr.toRlS, r1, r2, r3, hm, fun S' v al rp => end_al Rr p al rp⟩
theorem pa1 {t : TE} (hp : plainE a = true) (ha : PE X a t) : PA X [a] (tCons t tNil) := pa_cons ha pa_nil (plain_star hp [] X.env)
theorem pa2 {t u : TE} (hp : plainE a = true) (ha : PE X a t) (hp2 : plainE a2 = true) (ha2 : PE X a2 u) : PA X [a, a2] (tCons t (tCons u tNil)) := pa_cons ha (pa1 hp2 ha2) (plain_star hp [a2] X.env)
theorem pa3 {t u w : TE} (hp : plainE a = true) (ha : PE X a t) (hp2 : plainE a2 = true) (ha2 : PE X a2 u) (hp3 : plainE a3 = true) (ha3 : PE X a3 w) : PA X [a, a2, a3] (tCons t (tCons u (tCons w tNil))) := pa_cons ha (pa2 hp2 ha2 hp3 ha3) (plain_star hp [a2, a3] X.env)
theorem star1 (hp : plainE a = true) : starEach [a] X.env = [(false, eval a X.env)] := plain_star hp [] X.env
theorem star2 (hp : plainE a = true) (hp2 : plainE a2 = true) : starEach [a, a2] X.env = [(false, eval a X.env), (false, eval a2 X.env)] := by rw [plain_star hp, plain_star hp2]; rfl
theorem any0 {pos : Pos} : (backTo pos (starEach [] X.env)).any (·.1) = false := rfl
theorem any1 {pos : Pos} (hp : plainE a = true) : (backTo pos (starEach [a] X.env)).any (·.1) = false := by rw [star1 hp]; rfl
theorem any2 {pos : Pos} (hp : plainE a = true) (hp2 : plainE a2 = true) : (backTo pos (starEach [a, a2] X.env)).any (·.1) = false := by rw [star2 hp hp2]; rfl
section
variable (hg : Gl X x) (hm : X.mg x = none) (hn : x ≠ "__name__") (hdb : (x == ("__debug__" : Str)) = false)
include hg hm hn hdb
theorem s_bi1B (hc : CallR X (.builtin id) (R1c c (bi1 f))) (hv : bootBuiltins x = some (.builtin id)) (hp : plainE a = true) (ha : PE X a (tE c W (ev R ia))) : PE X (.Call (.Name x p) [a] [] pos) (tE c W (ev R (.bi1 f ia))) :=
  (pe_callB hc hg hm hv (pa1 hp ha) hn hdb (plain_star hp [] X.env) any0).weak fun σ H Q q => one_R1 q
theorem s_bi1T (hc : CallR X (.type T) (R1c c (bi1 f))) (hv : bootBuiltins x = some (.type T)) (hp : plainE a = true) (ha : PE X a (tE c W (ev R ia))) : PE X (.Call (.Name x p) [a] [] pos) (tE c W (ev R (.bi1 f ia))) :=
  (pe_callTy hc hg hm hv (pa1 hp ha) hn hdb (plain_star hp [] X.env) any0).weak fun σ H Q q => one_R1 q
theorem s_bi2B (hc : CallR X (.builtin id) (R2c c (bi2 f))) (hv : bootBuiltins x = some (.builtin id)) (hp : plainE a = true) (ha : PE X a (tE c W (ev R ia))) (hp2 : plainE a2 = true) (hb : PE X a2 (tE c W (ev R ib))) : PE X (.Call (.Name x p) [a, a2] [] pos) (tE c W (ev R (.bi2 f ia ib))) :=
  (pe_callB hc hg hm hv (pa2 hp ha hp2 hb) hn hdb (plain_star hp [a2] X.env) (any1 hp2)).weak fun σ H Q q => two_R2c q
theorem s_bi3B (hc : CallR X (.builtin id) (R3c c (bi3 f))) (hv : bootBuiltins x = some (.builtin id)) (hp : plainE a = true) (ha : PE X a (tE c W (ev R ia))) (hp2 : plainE a2 = true) (hb : PE X a2 (tE c W (ev R ib))) (hp3 : plainE a3 = true) (hb3 : PE X a3 (tE c W (ev R ic))) :
    PE X (.Call (.Name x p) [a, a2, a3] [] pos) (tE c W (ev R (.bi3 f ia ib ic))) :=
  (pe_callB hc hg hm hv (pa3 hp ha hp2 hb hp3 hb3) hn hdb (plain_star hp [a2, a3] X.env) (any2 hp2 hp3)).weak fun σ H Q q => three_R3c q
end

/-! ### a if t else b -/
theorem tM_end {fa : OI.Env → Store → Res (M × Pl)} {σ : L2.St} {S : Wd} {e : OI.Env} {s : Store} {Q : VK} (Rr : Rl c S e s σ) (p : PostG c W σ S s (outM (valM fa e s)) (rM c σ) Q) : tE c W fa σ S.H Q := by
  unfold outM at p
  exact valM_ok (k := fun m e s => Res.ok (m, Pl.tmp) e s) (rep := rM c) Rr p fun S1 e1 s1 m v R1 st1 rp p1 => p1 S1 v R1 (StE.refl S1 s1) ⟨rp, trivial⟩
theorem s_ife {t b : Expr} {it : IE} (ht : PT X t (tT c W (ev R it))) (ha : PE X a (tE c W (ev R ia))) (hb : PE X b (tE c W (ev R ib))) : PE X (.IfExp t a b pos) (tE c W (ev R (.ife it ia ib))) :=
  (pe_ifExp ht ha hb).weak fun σ H Q q => testB_ok (k := fun k => ifeK k (valM (ev R ia)) (valM (ev R ib))) (rep := rM c) q fun S e s k Rr p => by
    unfold ifeK at p
    cases k with
    | true => exact tM_end Rr p
    | false => exact tM_end Rr p

/-! ### isinstance -/
/-- the types of D that are built in -/
def Ty.name? : Ty → Option String
  | .tup => some "tuple"
  | .lst => some "list"
  | .str => some "str"
  | .bl => some "bool"
  | .int => some "int"
  | _ => none
/-- what tyIs says of a built-in type is what the kit says -/
theorem ty_of {S : Wd} {s : Store} {m : M} {v : V} {t : Ty} {n : String} {b : Bool} (Rr : RlS c S s) (r : RepV c S m v) (hn : t.name? = some n) (h : tyIs s m.frz t = some b) :
    ∃ ty, TyX c.K S.H v (.type ty) ∧ ∀ t n b, t.name? = some n → tyIs s m.frz t = some b → kitB ty n = some b := by
  have lst : ∀ p vs, v = .ref p → S.H p = some (.lst vs) → (∃ xs, m.frz = .lst xs) → ∃ ty, TyX c.K S.H v (.type ty) ∧ ∀ t n b, t.name? = some n → tyIs s m.frz t = some b → kitB ty n = some b := fun p vs e hf ⟨xs, ex⟩ => by
    subst e
    refine ⟨"list", .base (.lst hf), fun t n b hn h => ?_⟩
    rw [ex] at h
    cases t <;> cases hn <;> cases h <;> decide +kernel
  cases m with
  | ol xs => obtain ⟨p, vs, e, h1, _⟩ := r; exact lst p vs e h1 ⟨xs, rfl⟩
  | od u kvs => cases t <;> cases hn <;> cases h
  | val d =>
    cases d with
    | non =>
      cases r
      refine ⟨_, .base .non, fun t n b hn h => ?_⟩
      cases t <;> cases hn <;> cases h <;> decide +kernel
    | bl x =>
      cases r
      refine ⟨_, .base (.bl x), fun t n b hn h => ?_⟩
      cases t <;> cases hn <;> cases h <;> decide +kernel
    | int x =>
      cases r
      refine ⟨_, .base (.int x), fun t n b hn h => ?_⟩
      cases t <;> cases hn <;> cases h <;> decide +kernel
    | str x =>
      cases r
      refine ⟨_, .base (.str x), fun t n b hn h => ?_⟩
      cases t <;> cases hn <;> cases h <;> decide +kernel
    | tup xs =>
      obtain ⟨p, vs, rfl, hf, _⟩ := r
      have hk : TyX c.K S.H (.ref p) (.type "tuple") := by
        rcases hf with ⟨h | ⟨o, h⟩, _⟩ | ⟨o, its, n, h1, h2, _⟩
        · exact .base (.tup h)
        · exact .fTuple h
        · exact .kTuple h1 h2
      refine ⟨_, hk, fun t n b hn h => ?_⟩
      cases t <;> cases hn <;> cases h <;> decide +kernel
    | lst xs => obtain ⟨p, vs, e, h1, _⟩ := r; exact lst p vs e h1 ⟨xs, rfl⟩
    | scr ns => cases t <;> cases hn <;> cases h
    | dic u kvs => cases t <;> cases hn <;> cases h
    | lam _ _ => cases t <;> cases hn <;> cases h
    | exn x => cases t <;> cases hn <;> cases h
    | loc k =>
      obtain ⟨a, rfl, ha⟩ := r
      have key : ∀ t n b, Ty.name? t = some n → tyIs s (.loc k) t = some b → ∃ xs w, s[k]? = some ⟨.lst xs, w⟩ := fun t n b hn h => by
        cases t <;> cases hn <;> (unfold tyIs at h; dsimp only at h; split at h <;> first | exact ⟨_, _, by assumption⟩ | cases h)
      obtain ⟨xs, w, he⟩ := key t n b hn h
      obtain ⟨_, vs, h1, _⟩ := Rl.locs Rr ha he
      refine ⟨"list", .base (.lst h1), fun t n b hn h => ?_⟩
      have h2 : tyIs s (.loc k) t = some b := h
      unfold tyIs at h2
      dsimp only at h2
      rw [he] at h2
      cases t <;> cases hn <;> cases h2 <;> decide +kernel
theorem any_of {s : Store} {d : D} {ty : String} (k : ∀ t n b, t.name? = some n → tyIs s d t = some b → kitB ty n = some b) {K : PySem.W.Frag} : ∀ {ts : List Ty} {ns : List String} {b : Bool}, ts.mapM Ty.name? = some ns → tyAny s d ts = some b →
    PySem.W.kitAny K (.type ty) (ns.map Value.type) = some b
  | [], _, _, h1, h2 => by
    cases h1
    cases h2
    rfl
  | t :: ts, ns, b, h1, h2 => by
    rw [List.mapM_cons] at h1
    cases e : t.name? with
    | none => rw [e] at h1; cases h1
    | some n =>
      cases e2 : ts.mapM Ty.name? with
      | none => rw [e, e2] at h1; cases h1
      | some ms =>
        rw [e, e2] at h1
        have h1 : some (n :: ms) = some ns := h1
        cases h1
        unfold tyAny at h2
        split at h2
        · rename_i h3
          cases h2
          exact kitAny_cons (kit_ty (k t n true e h3)) (fun z => nomatch z) fun _ => rfl
        · rename_i h3
          exact kitAny_cons (kit_ty (k t n false e h3)) (fun _ => any_of k e2 h2) fun z => nomatch z
        · cases h2
theorem any_one {s : Store} {d : D} {t : Ty} {b : Bool} (h : tyAny s d [t] = some b) : tyIs s d t = some b := by
  unfold tyAny at h
  split at h
  · rename_i h3; cases h; exact h3
  · rename_i h3
    cases h
    exact h3
  · cases h
theorem isi_ok {o : Bool} {ts : List Ty} {σ : L2.St} {H : Hp} {Q : VK} {rest : V → Hp → Prop} (h : tE c W (ev R (.isi ia o ts)) σ H Q)
    (hr : ∀ S e s m pl v b, Rl c S e s σ → RepM c S pl m v → tyAny s m.frz ts = some b → PostG c W σ S s (.ok (.val (.bl b), .tmp) e s) (rM c σ) Q → rest v S.H) : tE c W (ev R ia) σ H rest := by
  obtain ⟨S, e, s, rfl, Rr, p⟩ := h
  refine ⟨S, e, s, rfl, Rr, PostG.bind Rr.toRlS p fun x1 e1 s1 S1 v1 q1 R1 st1 rp1 p1 => ?_⟩
  unfold isiK at p1
  obtain ⟨b, hb, p1⟩ := outB_ok p1
  exact hr S1 e1 s1 x1.1 x1.2 v1 b R1 rp1.1 hb p1
theorem s_isi1 {n : String} {t : Ty} {np : Pos} {nx : Str} (hK : X.K = c.K) (hg : Gl X "isinstance") (hm : X.mg "isinstance" = none) (hg2 : Gl X nx) (hm2 : X.mg nx = none) (hv : bootBuiltins nx = some (.type n)) (hn : nx ≠ "__name__") (hdb : (nx == ("__debug__" : Str)) = false)
    (ht : t.name? = some n) (hp : plainE a = true) (ha : PE X a (tE c W (ev R ia))) : PE X (.Call (.Name "isinstance" p) [a, .Name nx np] [] pos) (tE c W (ev R (.isi ia true [t]))) :=
  (pe_callB call_isi hg hm rfl (pa2 hp ha rfl (pe_bltn (v := .ty n) hg2 hm2 hv rfl hn hdb)) (by decide) (by decide) (plain_star hp _ X.env) (any1 rfl)).weak fun σ H Q q => isi_ok q fun S e s m pl v b Rr rp hb p => by
    obtain ⟨ty, h1, h2⟩ := ty_of Rr.toRlS rp.view ht (any_one hb)
    rw [← hK] at h1
    exact ⟨v, .ty n, _, _, b, rfl, .ty n, h1, kit_ty (h2 t n b ht (any_one hb)), end_val Rr p rfl⟩
/-- the names of built-in types, one after another -/
inductive TyNames (X : Cx) : List Expr → List String → Prop where
  | nil : TyNames X [] []
  | cons {x : Str} {n : String} {p : Pos} {as : List Expr} {ns : List String} (hg : Gl X x) (hm : X.mg x = none) (hv : bootBuiltins x = some (.type n)) (hn : x ≠ "__name__") (hdb : (x == ("__debug__" : Str)) = false) (r : TyNames X as ns) : TyNames X (.Name x p :: as) (n :: ns)
theorem TyNames.pa : ∀ {as : List Expr} {ns : List String}, TyNames X as ns → PA X as fun _ H Q => Q (ns.map V.ty) H
  | _, _, .nil => pa_nil
  | _, _, .cons hg hm hv hn hdb r => pa_cons (pe_bltn (v := .ty _) hg hm hv rfl hn hdb) r.pa rfl
theorem clsv : ∀ ns : List String, Paired ClsV (ns.map V.ty) (ns.map Value.type)
  | [] => .nil
  | n :: ns => .cons (.ty n) (clsv ns)
theorem s_isiT {ns : List String} {ts : List Ty} {tp : Pos} {k : Nat} {as : List Expr} (hK : X.K = c.K) (hg : Gl X "isinstance") (hm : X.mg "isinstance" = none) (hT : TyNames X as ns) (ht : ts.mapM Ty.name? = some ns) (h0 : ns ≠ []) (hl : ns.length ≤ 1000)
    (hp : plainE a = true) (ha : PE X a (tE c W (ev R ia))) : PE X (.Call (.Name "isinstance" p) [a, .Tuple as k tp] [] pos) (tE c W (ev R (.isi ia false ts))) :=
  (pe_callB call_isiT hg hm rfl (pa2 hp ha rfl (pe_tup hT.pa)) (by decide) (by decide) (plain_star hp _ X.env) (any1 rfl)).weak fun σ H Q q => isi_ok q fun S e s m pl v b Rr rp hb p => by
    refine ⟨by rw [List.length_map, sizeLine_eq]; omega, fun ad nq => ?_⟩
    have hlv : (ns.map V.ty).length ≤ 16777216 := by rw [List.length_map]; omega
    have al : Al S (S.put ad (.tup (ns.map V.ty)) none) := Al.lay Rr.toRlS nq (.inl rfl) (HLo.tup hlv)
    have rp' : RepM c (S.put ad (.tup (ns.map V.ty)) none) pl m v := rp.step al.fr fun a ha => al.at Rr.dom ha
    have Rr' := al.rl Rr
    cases ts with
    | nil => cases ht; exact absurd rfl h0
    | cons t ts =>
      have hb' := hb
      rw [List.mapM_cons] at ht
      cases et : t.name? with
      | none => rw [et] at ht; cases ht
      | some n =>
        obtain ⟨b0, e0⟩ : ∃ b0, tyIs s m.frz t = some b0 := by
          unfold tyAny at hb'
          split at hb' <;> first | exact ⟨_, by assumption⟩ | cases hb'
        obtain ⟨ty, h1, h2⟩ := ty_of Rr'.toRlS rp'.view et e0
        rw [← hK] at h1
        refine ⟨v, ad, _, _, _, b, rfl, upd_same, clsv ns, h1, any_of (ts := t :: ts) h2 (by rw [List.mapM_cons]; exact ht) hb, ?_⟩
        exact end_val Rr' (PostG.shift Rr.toRlS (al.ste Rr.dom s) p) rfl
end
end OI

/-! OIk1: max(xs, default=d), called. -/
namespace OI
open PySem PySem.Spec PyProof.Rows L2
section
variable {X : Cx} {c : Cn} {W : WX} {R : Runs}
def rMaxd (c : Cn) (vs zs : List V) (H : Hp) (Q : VK) : Prop :=
  match vs, zs with
  | [v], [z] => R2c c (bi2 "maxd") [v, z] H Q
  | _, _ => False
theorem rMaxd_inv {vs zs : List V} {H : Hp} {Q : VK} (h : rMaxd c vs zs H Q) : ∃ v z, vs = [v] ∧ zs = [z] ∧ R2c c (bi2 "maxd") [v, z] H Q := by
  unfold rMaxd at h
  split at h
  · exact ⟨_, _, rfl, rfl, h⟩
  · exact h.elim
theorem b_maxd (hK : X.K = c.K) (hc : X.calm = true) : CallRK X (.builtin "max") [Str.ofString "default"] (rMaxd c) := by
  intro pins s σ H vs zs us ws Q I rs rz h
  obtain ⟨v, z, rfl, rfl, S, st, m1, m2, x, y, m, e, rfl, R, r1, r2, hm, q⟩ := rMaxd_inv h
  cases e
  obtain ⟨w1, rfl, e1⟩ := vals1 rz
  unfold bi2 at hm
  simp only at hm
  split at hm
  · rename_i j e2
    cases hm
    obtain ⟨p, rfl, h1⟩ := lints_of e2 r1
    cases r2
    rw [Vals.ref1 rs]
    rw [← hK] at h1
    obtain ⟨its, rv, hl, _⟩ := I.list h1
    obtain ⟨xs, ex⟩ := rv.ints.allInts.items
    have hn := rv.ints.length
    have hl := hl.isList
    rw [ex] at hl
    refine Mx.call_list _ (I.ok.hd hc) hl fun u h' tk hu hk => ?_
    have h0 : xs.size = 0 := by
      have h2 : its.length = 0 := by simpa using hn
      have h3 : its.toArray.size = (intItems xs).size := by rw [ex]
      simp [intItems] at h3
      omega
    rcases hu with ⟨_, rfl⟩ | ⟨h2, _⟩
    · exact ⟨.int j, S.H, I.kept hk, e1, q S _ (Al.refl R) rfl⟩
    · omega
  · rename_i n ns k e2
    cases hm
    obtain ⟨p, rfl, h1⟩ := lints_of e2 r1
    obtain ⟨g1, g2⟩ := maxI_mem n ns
    rw [Vals.ref1 rs]
    rw [← hK] at h1
    obtain ⟨its, rv, hl, _⟩ := I.list h1
    obtain ⟨xs, ex⟩ := rv.ints.allInts.items
    have hn : numsOf (intItems xs).toList = n :: ns := by rw [← ex]; exact rv.ints.numsOf
    have hl := hl.isList
    rw [ex] at hl
    rw [nums_intItems] at hn
    have hlen : xs.size = ns.length + 1 := by
      have := congrArg List.length hn
      simpa using this
    refine Mx.call_list _ (I.ok.hd hc) hl fun u h' tk hu hk => ?_
    rcases hu with ⟨h2, _⟩ | ⟨_, hv⟩
    · omega
    obtain ⟨t, rfl⟩ := intItems_at hv
    obtain ⟨a1, a2⟩ := argBest_gt (numAt xs) (xs.size - 1)
    have e3 : numAt xs (argBest (fun i j => decide (numAt xs i > numAt xs j)) (xs.size - 1)) = maxI (n :: ns) := by
      refine Int.le_antisymm (g2 _ ?_) ?_
      · rw [← hn, numAt_eq]
        exact PySem.getD_mem (by rw [List.length_map, Array.length_toList]; omega)
      · rw [← hn] at g1
        obtain ⟨j, hj, e4⟩ := mem_getD g1
        rw [List.length_map, Array.length_toList] at hj
        rw [hn] at e4
        rw [← e4, ← hn, ← numAt_eq]
        exact a2 j (by omega)
    exact ⟨.int _, S.H, I.kept hk, ⟨t, by rw [e3]⟩, q S _ (Al.refl R) rfl⟩
  · cases hm
variable {x : Str} {p pos kp : Pos} {a a2 : Expr} {ia ib : IE}
theorem s_maxd (hg : Gl X x) (hm : X.mg x = none) (hn : x ≠ "__name__") (hdb : (x == ("__debug__" : Str)) = false) (hK : X.K = c.K) (hc : X.calm = true) (hv : bootBuiltins x = some (.builtin "max")) (hp : plainE a = true) (ha : PE X a (tE c W (ev R ia))) (hb : PE X a2 (tE c W (ev R ib))) : PE X (.Call (.Name x p) [a] [⟨some (Str.ofString "default"), a2, kp⟩] pos) (tE c W (ev R (.bi2 "maxd" ia ib))) :=
  (pe_callBK (b_maxd hK hc) hg hm hv (pa1 hp ha) (pk_cons hb pk_nil) hn hdb (by rw [star1 hp]; rfl) (any1 hp)).weak fun σ H Q q => by
    have h := two_R2c (k := bi2 "maxd") q
    exact h
end
end OI

/-! OIl: what a def promises; a call of it. -/
namespace OI
open PySem PySem.Spec PyProof.Rows L2
variable {c : Cn}

/-- labels of no source are exchanged -/
structure Sim (S S' : Wd) : Prop where
  H : S'.H = S.H
  am : S'.am = S.am
  ow : ∀ a, S'.ow a = S.ow a ∨ ((∃ x, S.ow a = some x ∧ x.src = none) ∧ ∃ y, S'.ow a = some y ∧ y.src = none)
theorem Sim.fr {S S' : Wd} (h : Sim S S') : Fr S S' := ⟨fun a o h1 h2 => ⟨by rw [h.H]; exact h1, by
  rcases h.ow a with e | ⟨⟨x, e, _⟩, _⟩
  · rw [e]; exact h2
  · rw [h2] at e; cases e⟩, [], by rw [h.am, List.append_nil]⟩
theorem Sim.srcs {S S' : Wd} (h : Sim S S') {a : Addr} {q : Pl} {n : Nat} (h1 : S.ow a = some q) (h2 : q.src = some n) : S'.ow a = some q := by
  rcases h.ow a with e | ⟨⟨x, e, hx⟩, _⟩
  · rw [e]; exact h1
  · rw [h1] at e; cases e; rw [h2] at hx; cases hx
theorem Sim.srcs' {S S' : Wd} (h : Sim S S') {a : Addr} {q : Pl} {n : Nat} (h1 : S'.ow a = some q) (h2 : q.src = some n) : S.ow a = some q := by
  rcases h.ow a with e | ⟨_, y, e, hx⟩
  · rw [← e]; exact h1
  · rw [h1] at e; cases e; rw [h2] at hx; cases hx
theorem Sim.rls {S S' : Wd} {s : Store} (h : Sim S S') (R : RlS c S s) : RlS c S' s :=
  R.step h.fr (fun p q n h1 h2 => ⟨by rw [h.H], h.srcs h1 h2⟩) h.am (fun a ha => by
    rw [h.H]
    rcases h.ow a with e | ⟨⟨x, e, _⟩, _⟩
    · rw [e] at ha; exact R.dom a ha
    · exact R.dom a (by rw [e]; simp)) (fun a q n h1 h2 => R.src a q n (h.srcs' h1 h2) h2) (by rw [h.H]; exact R.hl)
theorem Sim.repM {S S' : Wd} (h : Sim S S') {pl : Pl} {m : M} {v : V} (r : RepM c S pl m v) (k : ∀ p, S.ow p = some pl → S'.ow p = some pl) : RepM c S' pl m v := r.step h.fr fun p hp => ⟨by rw [h.H], k p hp⟩

/-- no slot's -/
def NoSl (S : Wd) : Prop := ∀ a i, S.ow a ≠ some (.slot i)
/-- the slots' containers are others' now -/
def maskP (q : Option Pl) : Option Pl :=
  match q with
  | some (.slot _) => some .oth
  | x => x
def unmaskP (q r : Option Pl) : Option Pl :=
  match q with
  | some (.slot i) => some (.slot i)
  | _ => r
def Wd.mask (S : Wd) : Wd := { S with ow := fun a => maskP (S.ow a) }
/-- .. and are the slots' again -/
def Wd.unmask (S S' : Wd) : Wd := { S' with ow := fun a => unmaskP (S.ow a) (S'.ow a) }
theorem mask_slot {S : Wd} {a : Addr} {i : Nat} (h : S.ow a = some (.slot i)) : S.mask.ow a = some .oth := by
  show maskP (S.ow a) = _
  rw [h]
  rfl
theorem mask_ne {S : Wd} {a : Addr} (h : ∀ i, S.ow a ≠ some (.slot i)) : S.mask.ow a = S.ow a := by
  show maskP (S.ow a) = _
  unfold maskP
  split
  · rename_i i e; exact absurd e (h i)
  · rfl
theorem unmask_slot {S S' : Wd} {a : Addr} {i : Nat} (h : S.ow a = some (.slot i)) : (S.unmask S').ow a = some (.slot i) := by
  show unmaskP (S.ow a) _ = _
  rw [h]
  rfl
theorem unmask_ne {S S' : Wd} {a : Addr} (h : ∀ i, S.ow a ≠ some (.slot i)) : (S.unmask S').ow a = S'.ow a := by
  show unmaskP (S.ow a) _ = _
  unfold unmaskP
  split
  · rename_i i e; exact absurd e (h i)
  · rfl
theorem slot_or (S : Wd) (a : Addr) : (∃ i, S.ow a = some (.slot i)) ∨ ∀ i, S.ow a ≠ some (.slot i) := by
  by_cases h : ∃ i, S.ow a = some (.slot i)
  · exact .inl h
  · exact .inr fun i e => h ⟨i, e⟩
theorem mask_noSl (S : Wd) : NoSl S.mask := fun a i => by
  rcases slot_or S a with ⟨j, h⟩ | h
  · rw [mask_slot h]; simp
  · rw [mask_ne h]; exact h i
theorem mask_sim (S : Wd) : Sim S S.mask := ⟨rfl, rfl, fun a => by
  rcases slot_or S a with ⟨j, h⟩ | h
  · exact .inr ⟨⟨_, h, rfl⟩, _, mask_slot h, rfl⟩
  · exact .inl (mask_ne h)⟩
section
variable {S S' : Wd} {s s' : Store} {e : OI.Env} {σ : L2.St}
theorem unmask_sim (st : StC S.mask S' s s') : Sim S' (S.unmask S') := ⟨rfl, rfl, fun a => by
  rcases slot_or S a with ⟨j, h⟩ | h
  · exact .inr ⟨⟨_, (st.oth a (mask_slot h)).2, rfl⟩, _, unmask_slot h, rfl⟩
  · exact .inl (unmask_ne h)⟩
theorem unmask_ste (st : StC S.mask S' s s') : StE S (S.unmask S') s s' where
  keep := fun a o h1 h2 => by
    have ns : ∀ i, S.ow a ≠ some (.slot i) := fun i z => by rw [h2] at z; cases z
    obtain ⟨x, y⟩ := st.keep a o h1 (by rw [mask_ne ns]; exact h2)
    exact ⟨x, by rw [unmask_ne ns]; exact y⟩
  am := st.am
  ver := st.ver
  ent := fun n en h1 h2 a p hp hn => by
    have ns : ∀ i, S.ow a ≠ some (.slot i) := fun i z => by rw [hp] at z; cases z; cases hn
    obtain ⟨x, y⟩ := st.ent n en h1 h2 a p (by rw [mask_ne ns]; exact hp) hn
    exact ⟨x, by rw [unmask_ne ns]; exact y⟩
  oth := fun a hp => by
    have ns : ∀ i, S.ow a ≠ some (.slot i) := fun i z => by rw [hp] at z; cases z
    obtain ⟨x, y⟩ := st.oth a (by rw [mask_ne ns]; exact hp)
    exact ⟨x, by rw [unmask_ne ns]; exact y⟩
  slot := fun a i hp => ⟨(st.oth a (mask_slot hp)).1, .inl (unmask_slot hp)⟩
theorem unmask_rl (R : Rl c S e s σ) (R' : RlS c S' s') (st : StC S.mask S' s s') : Rl c (S.unmask S') e s' σ where
  toRlS := (unmask_sim st).rls R'
  elen := R.elen
  slot := fun i m h => by
    obtain ⟨v, h1, h2⟩ := R.slot i m h
    have u := unmask_ste st
    exact ⟨v, h1, h2.step u.toFr fun p hp => ⟨(u.slot p i hp).1, unmask_slot hp⟩⟩
theorem unmask_tmp (st : StC S.mask S' s s') {m : M} {v : V} (r : RepM c S' .tmp m v) : RepM c (S.unmask S') .tmp m v :=
  (unmask_sim st).repM r fun p hp => by
    rcases slot_or S p with ⟨j, h⟩ | h
    · rw [(st.oth p (mask_slot h)).2] at hp; cases hp
    · rw [unmask_ne h]; exact hp
end
/-- what became of a call, as the caller is told -/
def PostF (c : Cn) (S : Wd) (s : Store) (r : RR) (Q : VK) (E : XK) : Prop :=
  match r with
  | .ok m s' => ∀ S' v, RlS c S' s' → StC S S' s s' → NoSl S' → RepM c S' .tmp m v → Q v S'.H
  | .err k s' => ∀ S', RlS c S' s' → StC S S' s s' → NoSl S' → E (.ref (c.cls k)) none S'.H
  | .bad => False
/-- a def's promise: its run by OI -/
def spF (c : Cn) (R : Runs) (f : String) (np : Nat) : Sp := fun vs H Q E => ∃ S s ds, S.H = H ∧ RlS c S s ∧ NoSl S ∧ RepDs c S ds vs ∧ ds.length = np ∧ PostF c S s (R f ds s) Q E
section
variable {X : Cx} {W : WX} {R : Runs}
theorem call_of {f : String} {S : Wd} {s : Store} {e : OI.Env} {σ : L2.St} {ds : List D} {vs : List V} {Q : VK} (Rr : Rl c S e s σ) (r : RepDs c S ds vs) (p : PostG c W σ S s (callK R f ds e s) (rM c σ) Q) : spF c R f ds.length vs S.H Q (WE W σ) := by
  refine ⟨S.mask, s, ds, rfl, (mask_sim S).rls Rr.toRlS, mask_noSl S, r.mono (mask_sim S).fr, rfl, ?_⟩
  unfold callK at p
  cases h : R f ds s with
  | ok m s' =>
    rw [h] at p
    exact fun S' v R' st ns rp => p (S.unmask S') v (unmask_rl Rr R' st) (unmask_ste st) ⟨unmask_tmp st rp, trivial⟩
  | err k s' =>
    rw [h] at p
    exact fun S' R' st ns => p (S.unmask S') (unmask_rl Rr R' st) (unmask_ste st)
  | bad => rw [h] at p; exact p
/-- a def of the text, as a body may call it -/
structure FnI (X : Cx) (c : Cn) (R : Runs) (k : Nat) (f : String) (np : Nat) : Prop where
  some : ∃ fa fd ps, X.mg (Str.ofString f) = .some (.ref fa) ∧ PySem.W.keepIn X.K (.ref fa) = true ∧ Binds X.K fd ps [] ∧ ps.length = np ∧ FnOk X.prog X.w X.K X.mg X.base (L2.CX X.prog X.w) k fa fd ps (spF c R f np)
theorem any_plain {es : List Expr} {pos : Pos} (h : es.all plainE = true) : (backTo pos (starEach es X.env)).any (·.1) = false := by
  induction es with
  | nil => rfl
  | cons a r ih =>
    rw [List.all_cons, Bool.and_eq_true] at h
    rw [plain_star h.1]
    have := ih h.2
    unfold backTo at this ⊢
    rw [List.map_cons, List.any_cons, this]
    rfl
theorem s_call {f : String} {k np : Nat} {a : Expr} {as : List Expr} {ias : IEs} {p pos : Pos} (F : FnI X c R k f np) (hr : Room k X.A) (hg : Gl X (Str.ofString f)) (tk : Takes X W) (hn : ias.len = np) (ha : PA X (a :: as) (tA c W (evs R ias))) (hdb : (Str.ofString f == ("__debug__" : Str)) = false)
    (hp : (a :: as).all plainE = true) : PE X (.Call (.Name (Str.ofString f) p) (a :: as) [] pos) (tE c W (ev R (.call f ias))) := by
  obtain ⟨fa, fd, ps, h1, h2, h3, h4, h5⟩ := F.some
  rw [List.all_cons, Bool.and_eq_true] at hp
  exact (pe_callS h5 hr hg h1 h2 h3 (fun σ => passAt tk σ) ha hdb (plain_star hp.1 as X.env) (any_plain hp.2)).weak fun σ H Q q =>
    args_ok (k := callK R f) (rep := rM c) q fun S e s ds vs Rr r hl p => by
      have := call_of Rr r p
      rw [hl, hn] at this
      exact this
end
end OI

/-! OIm: statements: what a step of them keeps, their readings; assignments, returns, tests. -/
namespace OI
open PySem PySem.Spec PyProof.Rows L2

/-- a statement's step: the slots ws may be stored or changed -/
structure StS (ws : List Nat) (S S' : Wd) (s s' : Store) : Prop extends StC S S' s s' where
  slot : ∀ a i, i ∉ ws → S.ow a = some (.slot i) → S'.H a = S.H a ∧ (S'.ow a = some (.slot i) ∨ S'.ow a = none)
theorem StE.sts {S S' : Wd} {s s' : Store} (h : StE S S' s s') (ws : List Nat) : StS ws S S' s s' := ⟨h.toStC, fun a i _ => h.slot a i⟩
theorem StS.refl (ws : List Nat) (S : Wd) (s : Store) : StS ws S S s s := (StE.refl S s).sts ws
theorem StS.mono {ws ws' : List Nat} {S S' : Wd} {s s' : Store} (h : StS ws S S' s s') (k : ∀ i ∈ ws, i ∈ ws') : StS ws' S S' s s' := ⟨h.toStC, fun a i hi => h.slot a i fun z => hi (k i z)⟩
theorem StS.trans {ws : List Nat} {S S1 S2 : Wd} {s s1 s2 : Store} (dom : ∀ a, S.ow a ≠ none → S.H a ≠ none) (a : StS ws S S1 s s1) (b : StS ws S1 S2 s1 s2) : StS ws S S2 s s2 where
  toStC := a.toStC.trans b.toStC
  slot := fun p i hi hp => by
    obtain ⟨x1, x2⟩ := a.slot p i hi hp
    rcases x2 with x2 | x2
    · obtain ⟨y1, y2⟩ := b.slot p i hi x2
      exact ⟨y1.trans x1, y2⟩
    · cases e : S.H p with
      | none => exact absurd e (dom p (by rw [hp]; simp))
      | some o =>
        have h1 : S1.H p = some o := x1.trans e
        obtain ⟨y1, y2⟩ := b.keep p o h1 x2
        exact ⟨y1, .inr y2⟩

def PostS (c : Cn) (W : WX) (ws : List Nat) (S : Wd) (s : Store) (r : Res Flow) (D : Ends) : Prop :=
  match r with
  | .ok .nx e' s' => ∀ S' σ', Rl c S' e' s' σ' → StS ws S S' s s' → D.nx σ' S'.H
  | .ok (.ret m) _ s' => ∀ S' v, RlS c S' s' → StC S S' s s' → RepM c S' .tmp m v → D.rt v S'.H
  | .err k e' s' => ∀ S' σ', Rl c S' e' s' σ' → StS ws S S' s s' → W (.ref (c.cls k)) none σ' S'.H
  | .bad => False
def tS (c : Cn) (W : WX) (ws : List Nat) (f : OI.Env → Store → Res Flow) : TS := fun D σ H => ∃ S e s, S.H = H ∧ Rl c S e s σ ∧ PostS c W ws S s (f e s) D
theorem _root_.L2.PS.weak {X : Cx} {a : Stmt} {t u : TS} (h : PS X a u) (k : ∀ D σ H, t D σ H → u D σ H) : PS X a t := ⟨fun pins s σ H D I q => h.run pins s σ H D I (k D σ H q)⟩
theorem _root_.L2.PSs.weak {X : Cx} {a : List Stmt} {t u : TS} (h : PSs X a u) (k : ∀ D σ H, t D σ H → u D σ H) : PSs X a t := ⟨fun pins s σ H D I q => h.run pins s σ H D I (k D σ H q)⟩

section
variable {c : Cn} {W : WX} {ws : List Nat} {σ : L2.St} {S S1 : Wd} {s s1 : Store} {e : OI.Env} {D : Ends}
theorem PostS.shift {r : Res Flow} (R : RlS c S s) (st : StS ws S S1 s s1) (h : PostS c W ws S s r D) : PostS c W ws S1 s1 r D := by
  cases r with
  | ok f e' s' =>
    cases f with
    | nx => exact fun S' σ' R' st' => h S' σ' R' (st.trans R.dom st')
    | ret m => exact fun S' v R' st' rp => h S' v R' (st.toStC.trans st') rp
  | err k e' s' => exact fun S' σ' R' st' => h S' σ' R' (st.trans R.dom st')
  | bad => exact h
theorem PostS.mono {ws' : List Nat} {r : Res Flow} (h : PostS c W ws' S s r D) (k : ∀ i ∈ ws, i ∈ ws') : PostS c W ws S s r D := by
  cases r with
  | ok f e' s' =>
    cases f with
    | nx => exact fun S' σ' R' st' => h S' σ' R' (st'.mono k)
    | ret m => exact h
  | err k' e' s' => exact fun S' σ' R' st' => h S' σ' R' (st'.mono k)
  | bad => exact h
/-- an expression first, then the rest -/
theorem PostS.bindE {α β : Type} {r : Res α} {k : α → OI.Env → Store → Res Flow} {rep : Wd → Store → α → β → Prop} {G : β → Hp → Prop} (R : RlS c S s) (h : PostS c W ws S s (r.bind k) D)
    (g : ∀ x e1 s1 S1 y, r = .ok x e1 s1 → Rl c S1 e1 s1 σ → StE S S1 s s1 → rep S1 s1 x y → PostS c W ws S1 s1 (k x e1 s1) D → G y S1.H) : PostG c W σ S s r rep G := by
  cases r with
  | ok x e1 s1 => exact fun S1 y R1 st rp => g x e1 s1 S1 y rfl R1 st rp (PostS.shift R (st.sts ws) h)
  | err k' e1 s1 => exact fun S' R' st' => h S' σ R' (st'.sts ws)
  | bad => exact h
/-- a statement first, then the rest -/
theorem PostS.bindS {r : Res Flow} {k : OI.Env → Store → Res Flow} (R : RlS c S s) (h : PostS c W ws S s (r.bind fun f e s => match f with
      | .nx => k e s
      | .ret m => .ok (.ret m) e s) D) {N : L2.St → Hp → Prop} (g : ∀ e1 s1 S1 σ1, r = .ok .nx e1 s1 → Rl c S1 e1 s1 σ1 → StS ws S S1 s s1 → PostS c W ws S1 s1 (k e1 s1) D → N σ1 S1.H) : PostS c W ws S s r { D with nx := N } := by
  cases r with
  | ok f e1 s1 =>
    cases f with
    | nx => exact fun S1 σ1 R1 st => g e1 s1 S1 σ1 rfl R1 st (PostS.shift R st h)
    | ret m => exact h
  | err k' e1 s1 => exact h
  | bad => exact h
theorem vl_okS {x : M × Pl} {v : V} {k : M → OI.Env → Store → Res Flow} {G : Prop} (Rr : Rl c S e s σ) (rp : rM c σ S s x v)
    (h : PostS c W ws S s ((vl x.1 x.2 e s).bind k) D) (g : ∀ S1 m e1, Rl c S1 e1 s σ → StE S S1 s s → S1.H = S.H → RepM c S1 .tmp m v → PostS c W ws S1 s (k m e1 s) D → G) : G := by
  obtain ⟨m, pl⟩ := x
  obtain ⟨r1, r2⟩ := rp
  have other : ∀ (hm : m.isVal = false), G := fun hm => by
    dsimp only at h
    cases pl with
    | slot i =>
      have e0 : vl m (.slot i) e s = .ok (.val m.frz) (e.set i (some (.val m.frz))) s := by
        cases m <;> first | rfl | cases hm
      rw [e0] at h
      have hlt : i < e.length := by
        rw [Rr.elen]
        exact (List.getElem?_eq_some_iff.mp r2).1
      obtain ⟨S1, R1, hH, hd, st⟩ := Rr.frzSlot hm r2 r1 hlt
      exact g S1 (.val m.frz) _ R1 st hH hd (PostS.shift Rr.toRlS (st.sts ws) h)
    | tmp =>
      have e0 : vl m .tmp e s = .ok m e s := by
        cases m <;> first | rfl | cases hm
      rw [e0] at h
      exact g S m e Rr (StE.refl S s) rfl r1 h
    | fld n f =>
      have e0 : vl m (.fld n f) e s = .bad := by
        cases m <;> first | rfl | cases hm
      rw [e0] at h
      exact h.elim
    | obj n => exact r2.elim
    | oth => exact r2.elim
  cases m with
  | val d => exact g S (.val d) e Rr (StE.refl S s) rfl r1 h
  | ol xs => exact other rfl
  | od t kvs => exact other rfl
theorem valM_okS {fa : OI.Env → Store → Res (M × Pl)} {k : M → OI.Env → Store → Res Flow} {rest : V → Hp → Prop} (Rr : Rl c S e s σ)
    (h : PostS c W ws S s ((valM fa e s).bind k) D) (hr : ∀ S1 e1 s1 m v, Rl c S1 e1 s1 σ → StE S S1 s s1 → RepM c S1 .tmp m v → PostS c W ws S1 s1 (k m e1 s1) D → rest v S1.H) : tE c W fa σ S.H rest := by
  unfold valM at h
  rw [Res.bind_bind] at h
  refine ⟨S, e, s, rfl, Rr, PostS.bindE Rr.toRlS h fun x e1 s1 S1 v q1 R1 st1 rp1 p1 => ?_⟩
  refine vl_okS R1 rp1 p1 fun S2 m e2 R2 st2 hH rp2 p2 => ?_
  rw [← hH]
  exact hr S2 e2 s1 m v R2 (st1.trans Rr.dom st2) rp2 p2
theorem valD_okS {fa : OI.Env → Store → Res (M × Pl)} {k : OI.D → OI.Env → Store → Res Flow} {rest : V → Hp → Prop} (Rr : Rl c S e s σ)
    (h : PostS c W ws S s ((valD fa e s).bind k) D) (hr : ∀ S1 e1 s1 d v, Rl c S1 e1 s1 σ → StE S S1 s s1 → RepD c S1 d v → PostS c W ws S1 s1 (k d e1 s1) D → rest v S1.H) : tE c W fa σ S.H rest := by
  unfold valD at h
  rw [Res.bind_bind] at h
  refine ⟨S, e, s, rfl, Rr, PostS.bindE Rr.toRlS h fun x e1 s1 S1 v q1 R1 st1 rp1 p1 => ?_⟩
  rw [Res.bind_bind] at p1
  refine vl_okS R1 rp1 p1 fun S2 m e2 R2 st2 hH rp2 p2 => ?_
  obtain ⟨S3, R3, hH3, hd, st3⟩ := frz_ste R2 rp2
  rw [← hH, ← hH3]
  exact hr S3 e2 s1 m.frz v R3 ((st1.trans Rr.dom st2).trans Rr.dom st3) hd (PostS.shift R2.toRlS (st3.sts ws) p2)

/-! ### nothing was changed: the slots have their containers again -/
theorem restore {e1 : OI.Env} (R : Rl c S e s σ) (R1 : Rl c S1 e1 s σ) (st : StE S S1 s s) : Rl c (S.unmask S1) e s σ ∧ StE S (S.unmask S1) s s := by
  have ns : ∀ {a : Addr} {q : Option Pl}, S.ow a = q → (∀ i, q ≠ some (.slot i)) → ∀ i, S.ow a ≠ some (.slot i) := fun h1 h2 i z => h2 i (by rw [← h1]; exact z)
  have fr : Fr S (S.unmask S1) := ⟨fun a o h1 h2 => by
    obtain ⟨x, y⟩ := st.keep a o h1 h2
    exact ⟨x, by rw [unmask_ne (ns h2 (by simp))]; exact y⟩, st.am⟩
  have ste : StE S (S.unmask S1) s s := ⟨⟨fr, VerS.refl s, fun n en h1 h2 a p hp hn => by
      obtain ⟨x, y⟩ := st.ent n en h1 h2 a p hp hn
      exact ⟨x, by rw [unmask_ne (ns hp (fun i z => by cases z; cases hn))]; exact y⟩, fun a hp => by
      obtain ⟨x, y⟩ := st.oth a hp
      exact ⟨x, by rw [unmask_ne (ns hp (by simp))]; exact y⟩⟩, fun a i hp => ⟨(st.slot a i hp).1, .inl (unmask_slot hp)⟩⟩
  have am : (S.unmask S1).am = S.am := by
    show S1.am = S.am
    obtain ⟨more, em⟩ := st.am
    have h1 := R1.len
    have h2 := R.len
    rw [em, List.length_append] at h1
    have : more = [] := List.length_eq_zero_iff.mp (by omega)
    rw [em, this, List.append_nil]
  refine ⟨R.step fr (fun p q n hp hn => ?_) (fun p i hp => ⟨(st.slot p i hp).1, unmask_slot hp⟩) am (fun a ha => ?_) (fun a q n h1 h2 => ?_) R1.hl, ste⟩
  · have hlt := R.src p q n hp hn
    have he := List.getElem?_eq_getElem hlt
    obtain ⟨x, y⟩ := st.ent n _ he he p q hp hn
    exact ⟨x, by rw [unmask_ne (ns hp (fun i z => by cases z; cases hn))]; exact y⟩
  · show S1.H a ≠ none
    rcases slot_or S a with ⟨j, h⟩ | h
    · rw [(st.slot a j h).1]
      exact R.dom a (by rw [h]; simp)
    · rw [unmask_ne h] at ha
      exact R1.dom a ha
  · rcases slot_or S a with ⟨j, h⟩ | h
    · rw [unmask_slot h] at h1
      cases h1
      cases h2
    · rw [unmask_ne h] at h1
      exact R1.src a q n h1 h2
theorem flat_rep {pl pl' : Pl} {S' : Wd} {m : M} {v : V} (h : m.flat = true) (r : RepM c S pl m v) : RepM c S' pl' m v := by
  cases m with
  | val d => cases d <;> first | exact r | cases h
  | ol _ => cases h
  | od _ _ => cases h
/-- a statement's test -/
theorem test_okS {fa : OI.Env → Store → Res (M × Pl)} {k : Bool → OI.Env → Store → Res Flow} {rest : Bool → Hp → Prop} (Rr : Rl c S e s σ) (h : PostS c W ws S s ((testS fa e s).bind k) D)
    (hr : ∀ S1 e1 s1 b, Rl c S1 e1 s1 σ → StE S S1 s s1 → PostS c W ws S1 s1 (k b e1 s1) D → rest b S1.H) : tT c W fa σ S.H rest := by
  unfold testS at h
  rw [Res.bind_bind] at h
  refine ⟨S, e, s, rfl, Rr, PostS.bindE Rr.toRlS h fun b e1 s1 S1 b' q1 R1 st1 rp1 p1 => ?_⟩
  cases rp1
  have p1 : PostS c W ws S1 s1 (k b (if s1 = s then e else e1) s1) D := p1
  by_cases hs : s1 = s
  · subst hs
    rw [if_pos rfl] at p1
    obtain ⟨R2, st2⟩ := restore Rr R1 st1
    have h2 : PostS c W ws S s1 ((testB fa e s1).bind fun b e1 s2 => k b (if s2 = s1 then e else e1) s2) D := h
    rw [q1] at h2
    have h2 : PostS c W ws S s1 (k b (if s1 = s1 then e else e1) s1) D := h2
    rw [if_pos rfl] at h2
    exact hr (S.unmask S1) e s1 b R2 st2 (PostS.shift Rr.toRlS (st2.sts ws) h2)
  · rw [if_neg hs] at p1
    exact hr S1 e1 s1 b R1 st1 p1
end

/-! ### targets -/
section
variable {c : Cn} {S : Wd} {s : Store} {e : OI.Env} {σ : L2.St}
def gNames : List Nat → TGs
  | [] => gNil
  | i :: is => gCons (gName i) (gNames is)
def gT (K : PySem.W.Frag) : Tg → TG
  | .one i => gName i
  | .many is => gTup K is.length (gNames is)
/-- a slot is stored -/
theorem set_slot {i : Nat} {m : M} {v : V} (R : Rl c S e s σ) (hi : i < e.length) (r : RepM c S .tmp m v) : ∃ S', S'.H = S.H ∧ Rl c S' (e.set i (some m)) s (σ.set i (some v)) ∧ StS [i] S S' s s := by
  have main : ∀ S', S'.H = S.H → StS [i] S S' s s → RlS c S' s → (∀ j m w, RepM c S (.slot j) m w → RepM c S' (.slot j) m w) → RepM c S' (.slot i) m v → ∃ S', S'.H = S.H ∧ Rl c S' (e.set i (some m)) s (σ.set i (some v)) ∧ StS [i] S S' s s := fun S' hH st R' hj hm =>
    ⟨S', hH, ⟨R', by rw [List.length_set, List.length_set]; exact R.elen, fun j m' h => by
      by_cases z : i = j
      · subst z
        rw [List.getElem?_set_self hi] at h
        cases h
        exact ⟨v, by rw [List.getElem?_set_self (by rw [← R.elen]; exact hi)], hm⟩
      · rw [List.getElem?_set_ne z] at h
        obtain ⟨w, h1, h2⟩ := R.slot j m' h
        exact ⟨w, by rw [List.getElem?_set_ne z]; exact h1, hj j m' w h2⟩⟩, st⟩
  have lab : ∀ p, S.ow p = some .tmp → RepM c (S.lab p (some (.slot i))) (.slot i) m v → ∃ S', S'.H = S.H ∧ Rl c S' (e.set i (some m)) s (σ.set i (some v)) ∧ StS [i] S S' s s := fun p hp hm => by
    have R2 := lab_tmp (q := some (.slot i)) R hp
    exact main (S.lab p (some (.slot i))) rfl ((lab_ste hp).sts [i]) R2.toRlS (fun j m' w h => h.step (lab_fr (by rw [hp]; simp)) fun a ha => ⟨rfl, by rw [lab_ne (fun z => by subst z; rw [hp] at ha; cases ha)]; exact ha⟩) hm
  cases m with
  | val d => exact main S rfl (StS.refl _ _ _) R.toRlS (fun j m' w h => h) r
  | ol xs =>
    obtain ⟨p, vs, e1, h1, h2, h3⟩ := r
    exact lab p h2 ⟨p, vs, e1, h1, lab_same, h3.mono (lab_fr (by rw [h2]; simp))⟩
  | od t kvs =>
    obtain ⟨p, vs, e1, h1, h2, h3⟩ := r
    exact lab p h2 ⟨p, vs, e1, h1, lab_same, h3.mono (lab_fr (by rw [h2]; simp))⟩
theorem set_val {i : Nat} {d : D} {v : V} (R : Rl c S e s σ) (hi : i < e.length) (r : RepD c S d v) : Rl c S (e.set i (some (.val d))) s (σ.set i (some v)) where
  toRlS := R.toRlS
  elen := by rw [List.length_set, List.length_set]; exact R.elen
  slot := fun j m' h => by
    by_cases z : i = j
    · subst z
      rw [List.getElem?_set_self hi] at h
      cases h
      exact ⟨v, by rw [List.getElem?_set_self (by rw [← R.elen]; exact hi)], r⟩
    · rw [List.getElem?_set_ne z] at h
      obtain ⟨w, h1, h2⟩ := R.slot j m' h
      exact ⟨w, by rw [List.getElem?_set_ne z]; exact h1, h2⟩
theorem wipe_set {i : Nat} {v : Option V} : ∀ {own : List Nat} {σ : L2.St}, i ∈ own → L2.wipe (σ.set i v) own = L2.wipe σ own
  | j :: own, σ, h => by
    unfold L2.wipe
    have comm : ∀ {own : List Nat} {σ : L2.St}, L2.wipe (σ.set i v) own = (L2.wipe σ own).set i v ∨ L2.wipe (σ.set i v) own = L2.wipe σ own := by
      intro own
      induction own with
      | nil => intro σ; exact .inl rfl
      | cons k own ih =>
        intro σ
        unfold L2.wipe
        rcases @ih σ with e | e
        · rw [e]
          by_cases z : i = k
          · subst z
            right
            rw [List.set_set]
          · left
            rw [List.set_comm _ _ z]
        · rw [e]
          exact .inr rfl
    rcases comm (own := own) (σ := σ) with e | e
    · rw [e]
      by_cases z : i = j
      · subst z
        rw [List.set_set]
      · have hm : i ∈ own := by
          cases h with
          | head => exact absurd rfl z
          | tail _ h => exact h
        rw [wipe_set hm] at e
        rw [← e]
    · rw [e]
theorem names_ok {Q : L2.St → Hp → Prop} : ∀ {is : List Nat} {ds : List D} {vs : List V} {e e2 : OI.Env} {σ : L2.St}, Rl c S e s σ → RepDs c S ds vs → setNames is ds e = some e2 → (∀ σ', Rl c S e2 s σ' → (∀ own : List Nat, (∀ i ∈ is, i ∈ own) → L2.wipe σ' own = L2.wipe σ own) → Q σ' S.H) → vs.length = is.length ∧ gNames is vs σ S.H Q
  | [], ds, vs, e, e2, σ, R, r, h, q => by
    cases ds with
    | nil =>
      cases h
      have r : vs = [] := r
      subst r
      exact ⟨rfl, rfl, q σ R fun _ _ => rfl⟩
    | cons d ds => cases h
  | i :: is, ds, vs, e, e2, σ, R, r, h, q => by
    cases ds with
    | nil => cases h
    | cons d ds =>
      obtain ⟨v, w, rfl, r1, r2⟩ := r
      unfold setNames at h
      split at h
      · rename_i hi
        obtain ⟨hl, hq⟩ := names_ok (set_val R hi r1) r2 h fun σ' R' hw => q σ' R' fun own ho => by
          rw [hw own fun j hj => ho j (List.mem_cons_of_mem _ hj), wipe_set (ho i (List.mem_cons_self ..))]
        exact ⟨by rw [List.length_cons, hl, List.length_cons], v, w, rfl, hq⟩
      · cases h
theorem tg_ok {K : PySem.W.Frag} (hK : K = c.K) {t : Tg} {m : M} {v : V} {e2 : OI.Env} {Q : L2.St → Hp → Prop} (R : Rl c S e s σ) (r : RepM c S .tmp m v) (h : store t m e = some e2) (q : ∀ S' σ', S'.H = S.H → Rl c S' e2 s σ' → StS t.slots S S' s s → (∀ own : List Nat, (∀ i ∈ t.slots, i ∈ own) → L2.wipe σ' own = L2.wipe σ own) → Q σ' S'.H) : gT K t v σ S.H Q := by
  cases t with
  | one i =>
    unfold store at h
    dsimp only at h
    split at h
    · rename_i hi
      cases h
      obtain ⟨S', hH, R', st⟩ := set_slot R hi r
      have := q S' _ hH R' st fun own ho => wipe_set (ho i (List.mem_cons_self ..))
      rw [hH] at this
      exact this
    · cases h
  | many is =>
    unfold store at h
    dsimp only at h
    split at h
    · rename_i ds
      obtain ⟨p, vs, rfl, hf, rd⟩ := r
      obtain ⟨hl, hq⟩ := names_ok R rd h fun σ' R' hw => q S σ' rfl R' (StS.refl _ _ _) hw
      rw [hK]
      exact ⟨p, vs, rfl, hf.sq, hl, hq⟩
    · cases h
end
end OI

/-! OIn: the lifts of simple statements. -/
namespace OI
open PySem PySem.Spec PyProof.Rows L2
section
variable {c : Cn} {W : WX} {ws : List Nat} {σ : L2.St} {S S1 : Wd} {s s1 : Store} {e : OI.Env} {D : Ends}
theorem vl_cases {x : M × Pl} {v : V} (Rr : Rl c S e s σ) (rp : rM c σ S s x v) : vl x.1 x.2 e s = .bad ∨ ∃ S1 m e1, vl x.1 x.2 e s = .ok m e1 s ∧ Rl c S1 e1 s σ ∧ StE S S1 s s ∧ S1.H = S.H ∧ RepM c S1 .tmp m v := by
  obtain ⟨m, pl⟩ := x
  obtain ⟨r1, r2⟩ := rp
  have other : ∀ (hm : m.isVal = false), vl m pl e s = .bad ∨ ∃ S1 m' e1, vl m pl e s = .ok m' e1 s ∧ Rl c S1 e1 s σ ∧ StE S S1 s s ∧ S1.H = S.H ∧ RepM c S1 .tmp m' v := fun hm => by
    cases pl with
    | slot i =>
      have e0 : vl m (.slot i) e s = .ok (.val m.frz) (e.set i (some (.val m.frz))) s := by
        cases m <;> first | rfl | cases hm
      have hlt : i < e.length := by
        rw [Rr.elen]
        exact (List.getElem?_eq_some_iff.mp r2).1
      obtain ⟨S1, R1, hH, hd, st⟩ := Rr.frzSlot hm r2 r1 hlt
      exact .inr ⟨S1, _, _, e0, R1, st, hH, hd⟩
    | tmp =>
      have e0 : vl m .tmp e s = .ok m e s := by
        cases m <;> first | rfl | cases hm
      exact .inr ⟨S, m, e, e0, Rr, StE.refl S s, rfl, r1⟩
    | fld n f =>
      have e0 : vl m (.fld n f) e s = .bad := by
        cases m <;> first | rfl | cases hm
      exact .inl e0
    | obj n => exact r2.elim
    | oth => exact r2.elim
  cases m with
  | val d => exact .inr ⟨S, .val d, e, rfl, Rr, StE.refl S s, rfl, r1⟩
  | ol xs => exact other rfl
  | od t kvs => exact other rfl
theorem valM_full {fa : OI.Env → Store → Res (M × Pl)} {k : M → OI.Env → Store → Res Flow} {rest : V → Hp → Prop} (Rr : Rl c S e s σ)
    (h : PostS c W ws S s ((valM fa e s).bind k) D) (hr : ∀ S1 e1 s1 m v, Rl c S1 e1 s1 σ → StE S S1 s s1 → RepM c S1 .tmp m v → PostS c W ws S s (k m e1 s1) D → rest v S1.H) : tE c W fa σ S.H rest := by
  unfold valM at h
  rw [Res.bind_bind] at h
  refine ⟨S, e, s, rfl, Rr, PostS.bindE Rr.toRlS h fun x e1 s1 S1 v q1 R1 st1 rp1 p1 => ?_⟩
  rw [q1] at h
  have h : PostS c W ws S s ((vl x.1 x.2 e1 s1).bind k) D := h
  rcases vl_cases R1 rp1 with hb | ⟨S2, m, e2, he, R2, st2, hH, rp2⟩
  · rw [hb] at h
    exact h.elim
  · rw [he] at h
    rw [← hH]
    exact hr S2 e2 s1 m v R2 (st1.trans Rr.dom st2) rp2 h
end

section
variable {X : Cx} {c : Cn} {W : WX} {ws : List Nat} {R : Runs} {n : Nat} {pos : Pos}
theorem s_asg {t : Tg} {ia : IE} {st : Stmt} (hK : X.K = c.K) (hw : ∀ i ∈ t.slots, i ∈ ws) (h : PS X st (tAsg (tE c W (ev R ia)) (gT X.K t))) : PS X st (tS c W ws (exec R n (.asg t ia))) :=
  h.weak fun D σ H q => by
    obtain ⟨S, e, s, rfl, Rr, p⟩ := q
    refine valM_full Rr p fun S1 e1 s1 m v R1 st1 rp p1 => ?_
    split at p1
    · rename_i e2 he
      unfold keep at he
      split at he
      · rename_i hk
        obtain ⟨hf, rfl⟩ := hk
        obtain ⟨R2, st2⟩ := restore Rr R1 st1
        show gT X.K t v σ (S.unmask S1).H D.nx
        exact tg_ok hK R2 (flat_rep hf rp) he fun S' σ' hH R' st' _ => p1 S' σ' R' (((st2.sts ws).trans Rr.dom (st'.mono hw)))
      · exact tg_ok hK R1 rp he fun S' σ' hH R' st' _ => p1 S' σ' R' (((st1.sts ws).trans Rr.dom (st'.mono hw)))
    · exact p1.elim
theorem s_ret {a : Expr} {ia : IE} (ha : PE X a (tE c W (ev R ia))) : PS X (.Return (some a) pos) (tS c W ws (exec R n (.ret ia))) :=
  (ps_ret ha).weak fun D σ H q => by
    obtain ⟨S, e, s, rfl, Rr, p⟩ := q
    refine ⟨S, e, s, rfl, Rr, PostS.bindE Rr.toRlS p fun x e1 s1 S1 v q1 R1 st1 rp1 p1 => ?_⟩
    obtain ⟨m, pl⟩ := x
    obtain ⟨r1, r2⟩ := rp1
    unfold moved at p1
    dsimp only at p1 r1 r2
    have other : (∃ p, v = .ref p ∧ S1.ow p = some pl) → (∀ S2, Fr S1 S2 → S2.H = S1.H → (∀ p, S1.ow p = some pl → v = .ref p → S2.ow p = some .tmp) → RepM c S2 .tmp m v) → PostS c W ws S1 s1 (movedK m pl e1 s1) D → D.rt v S1.H := fun ⟨p, ev, ho⟩ hm hp => by
      cases pl with
      | slot i =>
        have fr : Fr S1 (S1.lab p (some .tmp)) := lab_fr (by rw [ho]; simp)
        have ne : ∀ {a : Addr} {x : Pl}, S1.ow a = some x → x ≠ .slot i → a ≠ p := fun h1 h2 z => by subst z; rw [ho] at h1; cases h1; exact h2 rfl
        have st : StC S1 (S1.lab p (some .tmp)) s1 s1 := ⟨fr, VerS.refl s1, fun n en _ _ a x hx hn => ⟨rfl, by rw [lab_ne (ne hx (fun z => by subst z; cases hn))]; exact hx⟩, fun a hx => ⟨rfl, by rw [lab_ne (ne hx (by simp))]; exact hx⟩⟩
        have R2 : RlS c (S1.lab p (some .tmp)) s1 := R1.toRlS.step fr (fun a x n hx hn => ⟨rfl, by rw [lab_ne (ne hx (fun z => by subst z; cases hn))]; exact hx⟩) rfl (lab_dom R1.dom (by rw [ho]; simp)) (lab_src R1.src (by intro x hx; cases hx; rfl)) R1.hl
        exact hp (S1.lab p (some .tmp)) v R2 st (hm _ fr rfl fun p' h1 h2 => by
          have : p' = p := by rw [ev] at h2; cases h2; rfl
          subst this
          exact lab_same)
      | tmp => exact hp S1 v R1.toRlS (StC.refl S1 s1) (hm _ (Fr.refl S1) rfl fun p' h1 _ => h1)
      | _ => exact hp.elim
    cases m with
    | val d => exact p1 S1 v R1.toRlS (StC.refl S1 s1) r1
    | ol xs =>
      obtain ⟨p, vs, ev, h1, h2, h3⟩ := r1
      exact other ⟨p, ev, h2⟩ (fun S2 f hH k => ⟨p, vs, ev, by rw [hH]; exact h1, k p h2 ev, h3.mono f⟩) p1
    | od t kvs =>
      obtain ⟨p, vs, ev, h1, h2, h3⟩ := r1
      exact other ⟨p, ev, h2⟩ (fun S2 f hH k => ⟨p, vs, ev, by rw [hH]; exact h1, k p h2 ev, h3.mono f⟩) p1
theorem s_ifs {t : Expr} {it : IE} {as bs : List Stmt} {ia ib : ISs} (ht : PT X t (tT c W (ev R it))) (ha : PSs X as (tS c W ws (execs R n ia))) (hb : PSs X bs (tS c W ws (execs R n ib))) : PS X (.If t as bs pos) (tS c W ws (exec R n (.ifs it ia ib))) :=
  (ps_if ht ha hb).weak fun D σ H q => by
    obtain ⟨S, e, s, rfl, Rr, p⟩ := q
    exact test_okS (k := fun k e1 s1 => if k then execs R n ia e1 s1 else execs R n ib e1 s1) Rr p fun S1 e1 s1 b R1 st1 p1 => by
      cases b with
      | true => exact ⟨S1, e1, s1, rfl, R1, p1⟩
      | false => exact ⟨S1, e1, s1, rfl, R1, p1⟩
/-- a suite as it is written: one that is empty is none of the text's -/
theorem s_expr {a : Expr} {ia : IE} (hs : ∀ l, swapsWith a none l X.env = pure false) (ha : PE X a (tE c W (ev R ia))) : PS X (.Expr a pos) (tS c W ws (exec R n (.expr ia))) :=
  (ps_expr ha (hs _)).weak fun D σ H q => by
    obtain ⟨S, e, s, rfl, Rr, p⟩ := q
    refine valM_full (k := fun _ e1 s1 => .ok .nx (if s1 = s then e else e1) s1) Rr p fun S1 e1 s1 m v R1 st1 rp p1 => ?_
    by_cases hs : s1 = s
    · subst hs
      rw [if_pos rfl] at p1
      obtain ⟨R2, st2⟩ := restore Rr R1 st1
      exact p1 (S.unmask S1) σ R2 (st2.sts ws)
    · rw [if_neg hs] at p1
      exact p1 S1 σ R1 (st1.sts ws)
theorem s_pass : PS X (.Pass pos) (tS c W ws (exec R n .pass)) :=
  ps_pass.weak fun D σ H q => by
    obtain ⟨S, e, s, rfl, Rr, p⟩ := q
    exact p S σ Rr (StS.refl ws S s)
theorem s_snil : PSs X [] (tS c W ws (execs R n .nil)) :=
  pss_nil.weak fun D σ H q => by
    obtain ⟨S, e, s, rfl, Rr, p⟩ := q
    exact p S σ Rr (StS.refl ws S s)
theorem s_scons {a : Stmt} {as : List Stmt} {ia : IS} {ias : ISs} (ha : PS X a (tS c W ws (exec R n ia))) (hr : PSs X as (tS c W ws (execs R n ias))) : PSs X (a :: as) (tS c W ws (execs R n (.cons ia ias))) :=
  (pss_cons ha hr).weak fun D σ H q => by
    obtain ⟨S, e, s, rfl, Rr, p⟩ := q
    exact ⟨S, e, s, rfl, Rr, PostS.bindS Rr.toRlS p fun e1 s1 S1 σ1 q1 R1 st1 p1 => ⟨S1, e1, s1, rfl, R1, p1⟩⟩
end
end OI

/-! OIo: containers changed in their place. -/
namespace OI
open PySem PySem.Spec PyProof.Rows L2

theorem ofString_inj {a b : String} (h : Str.ofString a = Str.ofString b) : a = b := by
  rw [Str.ofString_eq_toList, Str.ofString_eq_toList] at h
  have h1 : a.toList.map Char.toNat = b.toList.map Char.toNat := by
    have := congrArg (fun z : Str => z.cps.toList) h
    simpa using this
  have h2 : a.toList = b.toList := by
    have inj : Function.Injective Char.toNat := fun x y e => Char.toNat_inj.mp e
    exact (List.map_inj_right (fun x y e => inj e)).mp h1
  exact String.ext h2

section
variable {c : Cn} {S S' : Wd} {s s' : Store} {e : OI.Env} {σ : L2.St}
theorem RepF.get {n : Nat} {f : String} {m : M} : ∀ {fs : List (String × M)} {gs : List (Str × V)}, RepF c S n fs gs → fldGet fs f = some m → ∃ v, gs.lookup (Str.ofString f) = some v ∧ RepM c S (.fld n f) m v
  | [], _, _, h => by cases h
  | (g, m') :: r, _, ⟨v, q, e, h1, h2⟩, h => by
    subst e
    by_cases z : g = f
    · subst z
      have : fldGet ((g, m') :: r) g = some m' := by simp [fldGet]
      rw [this] at h
      cases h
      exact ⟨v, by simp [List.lookup], h1⟩
    · have e1 : fldGet ((g, m') :: r) f = fldGet r f := by simp [fldGet, z]
      rw [e1] at h
      obtain ⟨v', h3, h4⟩ := RepF.get h2 h
      refine ⟨v', ?_, h4⟩
      have hne : (Str.ofString f == Str.ofString g) = false := beq_eq_false_iff_ne.mpr fun w => z (ofString_inj w).symm
      rw [List.lookup_cons, hne]
      exact h3
/-- the places in slots -/
def Pl.sl : Pl → List Nat
  | .slot i => [i]
  | _ => []
/-- where the content of a place stands -/
def AtP (c : Cn) (S : Wd) (e : OI.Env) (s : Store) (σ : L2.St) (p : Pl) (m : M) (a : Addr) : Prop :=
  match p with
  | .slot i => e[i]? = some (some m) ∧ σ[i]? = some (some (.ref a))
  | .fld n f => ∃ C fs w b k dx gs, s[n]? = some ⟨.ins C fs, w⟩ ∧ fldGet fs f = some m ∧ S.am[n]? = some b ∧ S.H b = some (.ins k dx gs) ∧ gs.lookup (Str.ofString f) = some (.ref a)
  | .obj n => S.am[n]? = some a
  | _ => False
structure Here (c : Cn) (S : Wd) (e : OI.Env) (s : Store) (σ : L2.St) (p : Pl) (m : M) (a : Addr) : Prop where
  con : RepM c S p m (.ref a)
  ow : S.ow a = some p
  place : AtP c S e s σ p m a
theorem RepM.refs {pl : Pl} {m : M} {v : V} (hm : m.isVal = false) (r : RepM c S pl m v) : ∃ a, v = .ref a ∧ S.ow a = some pl := by
  cases m with
  | val d => cases hm
  | ol xs => obtain ⟨p, vs, e1, h1, h2, h3⟩ := r; exact ⟨p, e1, h2⟩
  | od t kvs => obtain ⟨p, vs, e1, h1, h2, h3⟩ := r; exact ⟨p, e1, h2⟩
theorem curr_ok {m1 m : M} {pl p : Pl} {v : V} {S1 S2 : Wd} {s1 s2 : Store} {e1 e2 : OI.Env} (R1 : Rl c S1 e1 s1 σ) (rp : RepM c S1 pl m1 v) (po : PlOk σ S1 pl v) (st : StE S1 S2 s1 s2) (R2 : Rl c S2 e2 s2 σ)
    {sl : List Nat} (hh : hold sl m1 pl = some p) (hs : same p.fsrc s1 s2 = true) (hc : curr p e2 s2 = some m) (hm : m.isVal = false) : ∃ a, v = .ref a ∧ Here c S2 e2 s2 σ p m a ∧ ∀ i ∈ p.sl, i ∈ sl := by
  have other : m1.isVal = false → holdK sl pl = some p → ∃ a, v = .ref a ∧ Here c S2 e2 s2 σ p m a ∧ ∀ i ∈ p.sl, i ∈ sl := fun hm1 hh => by
    obtain ⟨a, ev, ho⟩ := RepM.refs hm1 rp
    cases pl with
    | slot i =>
      unfold holdK at hh
      dsimp only at hh
      split at hh <;> cases hh
      rename_i hsl
      have po : σ[i]? = some (some v) := po
      unfold curr at hc
      dsimp only at hc
      split at hc
      · rename_i m2 he
        cases hc
        obtain ⟨v2, h1, h2⟩ := R2.slot i _ he
        rw [po] at h1
        cases h1
        obtain ⟨a2, ev2, ho2⟩ := h2.refs hm
        rw [ev2] at ev
        cases ev
        subst ev2
        exact ⟨a, rfl, ⟨h2, ho2, he, po⟩, fun j hj => by cases hj with | head => exact hsl | tail _ z => cases z⟩
      · cases hc
    | fld n f =>
      cases hh
      obtain ⟨b, C, dx, gs, hb, hB, hl⟩ := po
      have hs : s1[n]? = s2[n]? := of_decide_eq_true hs
      unfold curr at hc
      dsimp only at hc
      split at hc
      · rename_i C2 fs w he
        obtain ⟨b1, h1, h2, h3⟩ := R1.obj n _ (hs.trans he)
        rw [hb] at h1
        cases h1
        obtain ⟨b2, h4, h5, dx2, gs2, h6, h7, _⟩ := R2.obj n _ he
        rw [st.toFr.amAt hb] at h4
        cases h4
        have h8 := (st.ent n _ (hs.trans he) he b _ h2 rfl).1
        rw [h6, hB] at h8
        cases h8
        obtain ⟨v2, h9, h10⟩ := h7.get hc
        rw [hl] at h9
        cases h9
        obtain ⟨a2, ev2, ho2⟩ := h10.refs hm
        rw [ev2] at ev
        cases ev
        subst ev2
        exact ⟨a, rfl, ⟨h10, ho2, _, _, _, _, _, _, _, he, hc, st.toFr.amAt hb, h6, hl⟩, fun j hj => by cases hj⟩
      · cases hc
    | tmp => cases hh
    | obj n => cases hh
    | oth => cases hh
  cases m1 with
  | val d =>
    cases d with
    | loc n =>
      cases hh
      obtain ⟨a, ev, ha⟩ := rp
      have ha2 := st.toFr.amAt ha
      refine ⟨a, ev, ?_⟩
      unfold curr at hc
      dsimp only at hc
      split at hc
      · rename_i xs w he
        cases hc
        obtain ⟨h0, vs, h1, h2⟩ := Rl.locs R2.toRlS ha2 he
        exact ⟨⟨⟨a, vs, rfl, h1, h0, h2⟩, h0, ha2⟩, fun j hj => by cases hj⟩
      · rename_i t kvs w he
        cases hc
        obtain ⟨h0, vs, h1, h2⟩ := Rl.locs R2.toRlS ha2 he
        exact ⟨⟨⟨a, vs, rfl, h1, h0, h2⟩, h0, ha2⟩, fun j hj => by cases hj⟩
      · cases hc
    | _ => cases hh
  | ol xs => exact other rfl hh
  | od t kvs => exact other rfl hh
/-- another content at the place -/
theorem RepF.put {n : Nat} {f : String} {m : M} {a : Addr} (fr : Fr S S') (k : ∀ b g, S.ow b = some (.fld n g) → g ≠ f → S'.H b = S.H b ∧ S'.ow b = some (.fld n g)) (hm : RepM c S' (.fld n f) m (.ref a)) : ∀ {fs : List (String × M)} {gs : List (Str × V)}, (fs.map (·.1)).Nodup → RepF c S n fs gs → gs.lookup (Str.ofString f) = some (.ref a) →
    RepF c S' n (fldPut fs f m) gs
  | [], gs, _, h, hl => by
    rw [show gs = [] from h] at hl
    cases hl
  | (g, m') :: r, gs, nd, ⟨w, q, e, h1, h2⟩, hl => by
    subst e
    rw [List.map_cons, List.nodup_cons] at nd
    unfold fldPut
    by_cases z : g = f
    · subst z
      rw [if_pos (by simp)]
      rw [List.lookup_cons, beq_self_eq_true] at hl
      cases hl
      have keepAll : ∀ {fs : List (String × M)} {gs : List (Str × V)}, g ∉ fs.map (·.1) → RepF c S n fs gs → RepF c S' n fs gs := by
        intro fs
        induction fs with
        | nil => exact fun _ h => h
        | cons p r ih =>
          obtain ⟨g', m2⟩ := p
          intro gs hg ⟨w', q', e', h3, h4⟩
          rw [List.map_cons, List.mem_cons, not_or] at hg
          exact ⟨w', q', e', h3.step fr (fun b hb => k b g' hb (fun z => hg.1 z.symm)), ih hg.2 h4⟩
      exact ⟨_, _, rfl, hm, keepAll nd.1 h2⟩
    · rw [if_neg (by simpa using z)]
      have hne : (Str.ofString f == Str.ofString g) = false := beq_eq_false_iff_ne.mpr fun w => z (ofString_inj w).symm
      rw [List.lookup_cons, hne] at hl
      exact ⟨w, q, rfl, h1.step fr (fun b hb => k b g hb z), RepF.put fr k hm nd.2 h2 hl⟩
theorem fldPut_names {f : String} {m : M} : ∀ {fs : List (String × M)} {m' : M}, fldGet fs f = some m' → (fldPut fs f m).map (·.1) = fs.map (·.1)
  | [], _, h => by cases h
  | (g, w) :: r, m', h => by
    unfold fldPut
    by_cases z : g = f
    · subst z
      rw [if_pos (by simp)]
      rfl
    · rw [if_neg (by simpa using z)]
      have e1 : fldGet ((g, w) :: r) f = fldGet r f := by simp [fldGet, z]
      rw [e1] at h
      rw [List.map_cons, List.map_cons, fldPut_names h]
def Wd.upd (S : Wd) (a : Addr) (o : HO) : Wd := { S with H := L2.upd S.H a o }
/-- the content at a place is exchanged -/
theorem put_ok {p : Pl} {m m' : M} {a : Addr} {o : HO} {e' : OI.Env} {s' : Store} (R : Rl c S e s σ) (h : Here c S e s σ p m a) (ho : HLo o) (hcon : ∀ S' pl, S'.H a = some o → S'.ow a = some pl → Fr S S' → RepM c S' pl m' (.ref a)) (hp : put p m' e s = some (e', s')) :
    Rl c (S.upd a o) e' s' σ ∧ StS p.sl S (S.upd a o) s s' := by
  have hH : ∀ {b : Addr}, b ≠ a → (S.upd a o).H b = S.H b := fun hb => upd_ne hb
  have hHa : (S.upd a o).H a = some o := upd_same
  have ne : ∀ {b : Addr} {q : Pl}, S.ow b = some q → q ≠ p → b ≠ a := fun h1 h2 z => by subst z; rw [h.ow] at h1; cases h1; exact h2 rfl
  have fr : Fr S (S.upd a o) := ⟨fun b u h1 h2 => ⟨by rw [hH (fun z => by subst z; rw [h.ow] at h2; cases h2)]; exact h1, h2⟩, [], by simp [Wd.upd]⟩
  have con : RepM c (S.upd a o) p m' (.ref a) := hcon _ _ hHa h.ow fr
  have dom : ∀ b, (S.upd a o).ow b ≠ none → (S.upd a o).H b ≠ none := fun b hb => by
    by_cases z : b = a
    · subst z; rw [hHa]; simp
    · rw [hH z]; exact R.dom b hb
  have hl : HL (S.upd a o).H := R.hl.put ho
  have place := h.place
  -- where the store's entries stay as they are
  have stay : (∀ n, p.src ≠ some n) → RlS c (S.upd a o) s := fun hn => R.toRlS.step fr (fun b q n h1 h2 => ⟨hH (ne h1 fun z => by subst z; exact hn n h2), h1⟩) rfl dom R.src hl
  have slots : ∀ {e2 : OI.Env}, (∀ i m2, e2[i]? = some (some m2) → (p ≠ .slot i ∧ e[i]? = some (some m2)) ∨ (p = .slot i ∧ m2 = m' ∧ σ[i]? = some (some (.ref a)))) → ∀ i m2, e2[i]? = some (some m2) → ∃ v, σ[i]? = some (some v) ∧ RepM c (S.upd a o) (.slot i) m2 v := fun hk i m2 h2 => by
    rcases hk i m2 h2 with ⟨k1, k2⟩ | ⟨k1, k2, k3⟩
    · obtain ⟨v, x1, x2⟩ := R.slot i m2 k2
      exact ⟨v, x1, x2.step fr fun b hb => ⟨hH (ne hb fun z => k1 z.symm), hb⟩⟩
    · subst k2
      rw [k1] at con
      exact ⟨_, k3, con⟩
  have sls : ∀ (ws : List Nat), (∀ i, p = .slot i → i ∈ ws) → ∀ b i, i ∉ ws → S.ow b = some (.slot i) → (S.upd a o).H b = S.H b ∧ ((S.upd a o).ow b = some (.slot i) ∨ (S.upd a o).ow b = none) := fun ws hw b i hi hb => ⟨hH (ne hb fun z => hi (hw i z.symm)), .inl hb⟩
  cases p with
  | slot i =>
    cases hp
    obtain ⟨p1, p2⟩ := place
    have hlt := (List.getElem?_eq_some_iff.mp p1).1
    refine ⟨⟨stay (fun n z => nomatch z), by rw [List.length_set]; exact R.elen, slots fun j m2 h2 => ?_⟩, ⟨⟨fr, VerS.refl s, fun n en _ _ b q hb hq => ⟨hH (ne hb fun z => by subst z; cases hq), hb⟩, fun b hb => ⟨hH (ne hb fun z => nomatch z), hb⟩⟩, sls [i] fun j hj => by cases hj; simp⟩⟩
    by_cases z : i = j
    · subst z
      rw [List.getElem?_set_self hlt] at h2
      cases h2
      exact .inr ⟨rfl, rfl, p2⟩
    · rw [List.getElem?_set_ne z] at h2
      exact .inl ⟨fun w => z (by cases w; rfl), h2⟩
  | tmp => exact place.elim
  | oth => exact place.elim
  | fld n f =>
    obtain ⟨C, fs, w, b0, k0, dx0, gs0, hs, hg, q1, q2, q3⟩ := place
    unfold OI.put at hp
    dsimp only at hp
    rw [hs] at hp
    cases hp
    have hlt := (List.getElem?_eq_some_iff.mp hs).1
    refine ⟨⟨⟨by rw [List.length_set]; exact R.len, fun k en hk => ?_, dom, fun b q k h1 h2 => by rw [List.length_set]; exact R.src b q k h1 h2, hl⟩, R.elen, slots fun j m2 h2 => .inl ⟨fun z => (nomatch z), h2⟩⟩, ⟨⟨fr, fun k en hk => ?_, fun k en h1 h2 b q hb hq => ?_, fun b hb => ⟨hH (ne hb fun z => nomatch z), hb⟩⟩, sls [] fun j hj => nomatch hj⟩⟩
    · by_cases z : n = k
      · subst z
        rw [List.getElem?_set_self hlt] at hk
        cases hk
        obtain ⟨b, h1, h2, dx, gs, h3, h4, h5⟩ := R.obj n _ hs
        have hba : b ≠ a := ne h2 fun z => nomatch z
        obtain ⟨v2, x1, x2⟩ := h4.get hg
        have ev : v2 = .ref a := by
          rw [h1] at q1
          cases q1
          rw [h3] at q2
          cases q2
          rw [x1] at q3
          exact Option.some.inj q3
        subst ev
        refine ⟨b, h1, h2, dx, gs, (hH hba).trans h3, RepF.put fr (fun b' g hb' hg' => ⟨hH (ne hb' fun z => hg' (by cases z; rfl)), hb'⟩) con h5 h4 x1, ?_⟩
        rw [fldPut_names hg]
        exact h5
      · rw [List.getElem?_set_ne z] at hk
        obtain ⟨b, h1, h2, h3⟩ := R.obj k en hk
        exact ⟨b, h1, h2, h3.step fr (hH (ne h2 fun w => nomatch w)) fun b' g hb' => ⟨hH (ne hb' fun w => z (by cases w; rfl)), hb'⟩⟩
    · by_cases z : n = k
      · subst z
        rw [hs] at hk
        cases hk
        exact ⟨_, List.getElem?_set_self hlt, Nat.le_succ _, fun e => absurd e (Nat.ne_of_lt (Nat.lt_succ_self w))⟩
      · exact ⟨en, by rw [List.getElem?_set_ne z]; exact hk, Nat.le_refl _, fun _ => rfl⟩
    · by_cases z : n = k
      · subst z
        rw [hs] at h1
        cases h1
        rw [List.getElem?_set_self hlt] at h2
        have h2 := congrArg Ent.v (Option.some.inj h2)
        exact absurd h2 (Nat.ne_of_gt (Nat.lt_succ_self w))
      · exact ⟨hH (ne hb fun w => z (by subst w; cases hq; rfl)), hb⟩
  | obj n =>
    have hc : ∃ o2 w w', s[n]? = some ⟨o2, w⟩ ∧ s' = s.set n ⟨w', w + 1⟩ ∧ e' = e ∧ ∀ b, (S.upd a o).ow b = some (.obj n) → RepM c (S.upd a o) (.obj n) m' (.ref b) → RepO c (S.upd a o) n b w' := by
      unfold OI.put at hp
      dsimp only at hp
      split at hp
      · rename_i xs w ys he
        cases hp
        exact ⟨_, w, _, he, rfl, rfl, fun b _ ⟨p, vs, e1, h1, _, h3⟩ => by cases e1; exact ⟨vs, h1, h3⟩⟩
      · rename_i t' ks w t2 ys he
        cases hp
        exact ⟨_, w, _, he, rfl, rfl, fun b _ ⟨p, vs, e1, h1, _, h3⟩ => by cases e1; exact ⟨vs, h1, h3⟩⟩
      · cases hp
    obtain ⟨o2, w, w', hs, rfl, rfl, hrep⟩ := hc
    have hlt := (List.getElem?_eq_some_iff.mp hs).1
    refine ⟨⟨⟨by rw [List.length_set]; exact R.len, fun k en hk => ?_, dom, fun b q k h1 h2 => by rw [List.length_set]; exact R.src b q k h1 h2, hl⟩, R.elen, slots fun j m2 h2 => .inl ⟨fun z => (nomatch z), h2⟩⟩, ⟨⟨fr, fun k en hk => ?_, fun k en h1 h2 b q hb hq => ?_, fun b hb => ⟨hH (ne hb fun z => nomatch z), hb⟩⟩, sls [] fun j hj => nomatch hj⟩⟩
    · by_cases z : n = k
      · subst z
        rw [List.getElem?_set_self hlt] at hk
        cases hk
        exact ⟨a, place, h.ow, hrep a h.ow con⟩
      · rw [List.getElem?_set_ne z] at hk
        obtain ⟨b, h1, h2, h3⟩ := R.obj k en hk
        exact ⟨b, h1, h2, h3.step fr (hH (ne h2 fun w => z (by cases w; rfl))) fun b' g hb' => ⟨hH (ne hb' fun w => nomatch w), hb'⟩⟩
    · by_cases z : n = k
      · subst z
        rw [hs] at hk
        cases hk
        exact ⟨_, List.getElem?_set_self hlt, Nat.le_succ _, fun e => absurd e (Nat.ne_of_lt (Nat.lt_succ_self w))⟩
      · exact ⟨en, by rw [List.getElem?_set_ne z]; exact hk, Nat.le_refl _, fun _ => rfl⟩
    · by_cases z : n = k
      · subst z
        rw [hs] at h1
        cases h1
        rw [List.getElem?_set_self hlt] at h2
        have h2 := congrArg Ent.v (Option.some.inj h2)
        exact absurd h2 (Nat.ne_of_gt (Nat.lt_succ_self w))
      · exact ⟨hH (ne hb fun w => z (by subst w; cases hq; rfl)), hb⟩
end
end OI

/-! OIp: append, extend, clear, reverse, o[i] = v. -/
namespace OI
open PySem PySem.Spec PyProof.Rows L2
section
variable {c : Cn} {W : WX} {ws : List Nat} {σ : L2.St} {S1 S1' S2 : Wd} {s1 s2 : Store} {e1 e2 : OI.Env} {D : Ends} {x : M × Pl} {v : V}
/-- how a thing waits -/
def Pended (S1 S1' : Wd) (x : M × Pl) (v : V) : Prop := (S1' = S1 ∧ (x.2 ≠ .tmp ∨ x.1.isVal = true)) ∨ (x.2 = .tmp ∧ x.1.isVal = false ∧ ∃ a, v = .ref a ∧ S1.ow a = some .tmp ∧ S1' = S1.lab a (some .oth))
theorem pend2 (R1 : Rl c S1 e1 s1 σ) (rp : rM c σ S1 s1 x v) : ∃ S1', Pended S1 S1' x v ∧ Rl c S1' e1 s1 σ ∧ S1'.H = S1.H ∧ StE S1 S1' s1 s1 := by
  obtain ⟨m, pl⟩ := x
  by_cases hm : m.isVal = true
  · exact ⟨S1, .inl ⟨rfl, .inr hm⟩, R1, rfl, StE.refl _ _⟩
  · have hm : m.isVal = false := by simpa using hm
    by_cases hp : pl = .tmp
    · subst hp
      obtain ⟨a, ev, ho⟩ := RepM.refs hm rp.1
      exact ⟨S1.lab a (some .oth), .inr ⟨rfl, hm, a, ev, ho, rfl⟩, lab_tmp R1 ho, rfl, lab_ste ho⟩
    · exact ⟨S1, .inl ⟨rfl, .inl hp⟩, R1, rfl, StE.refl _ _⟩
/-- a place's content is exchanged: what the machine's rule is to do -/
theorem at_ok {sl : List Nat} {f : M → Option M} (R1 : Rl c S1 e1 s1 σ) (rp : rM c σ S1 s1 x v) (hk : Pended S1 S1' x v) (st : StE S1' S2 s1 s2) (R2 : Rl c S2 e2 s2 σ) (p : PostS c W ws S1 s1 (atK sl x s1 f e2 s2) D) (hf : ∀ d, f (.val d) = none) (hsl : ∀ i ∈ sl, i ∈ ws) :
    ∃ a m m', v = .ref a ∧ S2.ow a ≠ none ∧ RepV c S2 m v ∧ f m = some m' ∧ ∀ o, HLo o → (∀ S' pl, S'.H a = some o → S'.ow a = some pl → Fr S2 S' → RepM c S' pl m' (.ref a)) → D.nx σ (L2.upd S2.H a o) := by
  unfold atK at p
  split at p
  · rename_i q hq
    have hS : S1' = S1 := by
      rcases hk with ⟨h, _⟩ | ⟨h1, h2, _⟩
      · exact h
      · exfalso
        obtain ⟨m, pl⟩ := x
        dsimp only at h1 h2 hq
        subst h1
        cases m with
        | val d => cases h2
        | ol xs => exact absurd hq (by simp [hold, holdK])
        | od t kvs => exact absurd hq (by simp [hold, holdK])
    subst hS
    split at p
    · rename_i hs
      split at p
      · rename_i m hc
        unfold pushPl at p
        split at p
        · rename_i m' hm
          have hv : m.isVal = false := by
            cases m with
            | val d => rw [hf d] at hm; cases hm
            | _ => rfl
          split at p
          · rename_i e3 s3 hp
            obtain ⟨a, ev, h, hi⟩ := curr_ok R1 rp.1 rp.2 st R2 hq hs hc hv
            subst ev
            refine ⟨a, m, m', rfl, by rw [h.ow]; simp, h.con.view, hm, fun o ho hcon => ?_⟩
            obtain ⟨R3, st3⟩ := put_ok R2 h ho hcon hp
            exact p _ σ R3 ((st.sts ws).trans R1.dom (st3.mono fun i hj => hsl i (hi i hj)))
          · exact p.elim
        · exact p.elim
      · exact p.elim
    · exact p.elim
  · split at p
    · rename_i hq hh
      obtain ⟨h1, h2, h3⟩ := hh
      rcases hk with ⟨_, h | h⟩ | ⟨_, _, a, ev, ho, hS⟩
      · exact absurd h1 h
      · rw [h2] at h; cases h
      · subst ev hS
        obtain ⟨m', hm⟩ := Option.isSome_iff_exists.mp h3
        have ho1 : (S1.lab a (some .oth)).ow a = some .oth := lab_same
        obtain ⟨hH2, ho2⟩ := st.oth a ho1
        have r1 : RepM c (S1.lab a (some .oth)) .oth x.1 (.ref a) := by
          have h := rp.1
          rw [h1] at h
          obtain ⟨m0, pl0⟩ := x
          dsimp only at h h2 ⊢
          cases m0 with
          | val d => cases h2
          | ol xs =>
            obtain ⟨p, vs, e1, h1, h2, h3⟩ := h
            cases e1
            exact ⟨a, vs, rfl, h1, lab_same, h3.mono (lab_fr (by rw [h2]; simp))⟩
          | od t kvs =>
            obtain ⟨p, vs, e1, h1, h2, h3⟩ := h
            cases e1
            exact ⟨a, vs, rfl, h1, lab_same, h3.mono (lab_fr (by rw [h2]; simp))⟩
        have r2 : RepM c S2 .oth x.1 (.ref a) := r1.step st.toFr fun p hp => st.oth p hp
        refine ⟨a, x.1, m', rfl, by rw [ho2]; simp, r2.view, hm, fun o ho' hcon => ?_⟩
        have ne1 : ∀ {b : Addr} {q : Pl}, S1.ow b = some q → q ≠ .tmp → b ≠ a := fun h1 h2 z => by subst z; rw [ho] at h1; cases h1; exact h2 rfl
        have ne2 : ∀ {b : Addr} {q : Pl}, S2.ow b = some q → q ≠ .oth → b ≠ a := fun h1 h2 z => by subst z; rw [ho2] at h1; cases h1; exact h2 rfl
        have H3 : ∀ {b : Addr}, b ≠ a → ((S2.lab a (some .tmp)).upd a o).H b = S2.H b := fun hb => upd_ne hb
        have O3 : ∀ {b : Addr}, b ≠ a → ((S2.lab a (some .tmp)).upd a o).ow b = S2.ow b := fun hb => lab_ne hb
        have fr23 : Fr S2 ((S2.lab a (some .tmp)).upd a o) := ⟨fun b u h1 h2 => by
          have hb : b ≠ a := fun z => by subst z; rw [ho2] at h2; cases h2
          exact ⟨by rw [H3 hb]; exact h1, by rw [O3 hb]; exact h2⟩, [], by simp [Wd.upd, Wd.lab]⟩
        have R3 : Rl c ((S2.lab a (some .tmp)).upd a o) e2 s2 σ := R2.step fr23 (fun b q n h1 h2 => by
            have hb := ne2 h1 (fun z => by subst z; cases h2)
            exact ⟨H3 hb, by rw [O3 hb]; exact h1⟩) (fun b i h1 => by
            have hb := ne2 h1 (fun z => nomatch z)
            exact ⟨H3 hb, by rw [O3 hb]; exact h1⟩) rfl (fun b hb => by
            by_cases z : b = a
            · subst z
              show L2.upd S2.H b o b ≠ none
              rw [upd_same]
              simp
            · rw [O3 z] at hb
              rw [H3 z]
              exact R2.dom b hb) (fun b q n h1 h2 => by
            by_cases z : b = a
            · subst z
              have : ((S2.lab b (some .tmp)).upd b o).ow b = some .tmp := lab_same
              rw [this] at h1
              cases h1
              cases h2
            · rw [O3 z] at h1
              exact R2.src b q n h1 h2) (R2.hl.put ho')
        have st3 : StS ws S1 ((S2.lab a (some .tmp)).upd a o) s1 s2 := by
          have f : ∀ {b : Addr}, b ≠ a → (S1.lab a (some .oth)).ow b = S1.ow b := fun hb => lab_ne hb
          refine ⟨⟨⟨fun b u h1 h2 => ?_, st.am⟩, st.ver, fun n en h1 h2 b q hb hq => ?_, fun b hb => ?_⟩, fun b i _ hb => ?_⟩
          · have hb : b ≠ a := fun z => by subst z; rw [ho] at h2; cases h2
            obtain ⟨x1, x2⟩ := st.keep b u h1 (by rw [f hb]; exact h2)
            exact ⟨by rw [H3 hb]; exact x1, by rw [O3 hb]; exact x2⟩
          · have hne := ne1 hb (fun z => by subst z; cases hq)
            obtain ⟨x1, x2⟩ := st.ent n en h1 h2 b q (by rw [f hne]; exact hb) hq
            exact ⟨by rw [H3 hne]; exact x1, by rw [O3 hne]; exact x2⟩
          · have hne := ne1 hb (fun z => nomatch z)
            obtain ⟨x1, x2⟩ := st.oth b (by rw [f hne]; exact hb)
            exact ⟨by rw [H3 hne]; exact x1, by rw [O3 hne]; exact x2⟩
          · have hne := ne1 hb (fun z => nomatch z)
            obtain ⟨x1, x2⟩ := st.slot b i (by rw [f hne]; exact hb)
            exact ⟨by rw [H3 hne]; exact x1, by rw [O3 hne]; exact x2⟩
        exact p _ σ R3 st3
    · exact p.elim
end

section
variable {c : Cn} {W : WX} {ws : List Nat} {σ : L2.St} {S1 S1' : Wd} {s : Store} {e : OI.Env} {D : Ends}
theorem valD_from {fa : OI.Env → Store → Res (M × Pl)} {k : OI.D → OI.Env → Store → Res Flow} {rest : V → Hp → Prop} (Rr : Rl c S1' e s σ) (R0 : RlS c S1 s) (st0 : StE S1 S1' s s)
    (h : PostS c W ws S1 s ((valD fa e s).bind k) D) (hr : ∀ S2 e2 s2 d v, Rl c S2 e2 s2 σ → StE S1' S2 s s2 → RepD c S2 d v → PostS c W ws S1 s (k d e2 s2) D → rest v S2.H) : tE c W fa σ S1'.H rest := by
  unfold valD at h
  rw [Res.bind_bind] at h
  refine ⟨S1', e, s, rfl, Rr, PostS.bindE Rr.toRlS (PostS.shift R0 (st0.sts ws) h) fun x e1 s1 S2 v q1 R1 st1 rp1 p1 => ?_⟩
  rw [q1] at h
  have h : PostS c W ws S1 s (((vl x.1 x.2 e1 s1).bind fun m e2 s2 => .ok m.frz e2 s2).bind k) D := h
  rcases vl_cases R1 rp1 with hb | ⟨S3, m, e2, he, R2, st2, hH, rp2⟩
  · rw [hb] at h
    exact h.elim
  · rw [he] at h
    obtain ⟨S4, R4, hH4, hd, st4⟩ := frz_ste R2 rp2
    rw [← hH, ← hH4]
    exact hr S4 e2 s1 m.frz v R4 ((st1.trans Rr.dom st2).trans Rr.dom st4) hd h
end
section
variable {X : Cx} {c : Cn} {W : WX} {ws : List Nat} {R : Runs} {n : Nat} {pos apos cpos : Pos} {o a b : Expr} {io ia ib : IE}
theorem few0 {pos : Pos} : ((backTo pos (starEach [] X.env)).all (fun x => !x.1) && (backToKw pos (keywordEach [] X.env)).all (fun x => x.1.isSome)) = true := rfl
theorem few1 {pos : Pos} (hp : plainE a = true) : ((backTo pos (starEach [a] X.env)).all (fun x => !x.1) && (backToKw pos (keywordEach [] X.env)).all (fun x => x.1.isSome)
      && decide (([a] : List Expr).length + ([] : List Keyword).length + (if ([] : List Keyword).isEmpty then 0 else 1) < 30)) = true := by rw [star1 hp]; rfl
theorem few2 {pos : Pos} (hp : plainE a = true) (hp2 : plainE b = true) : ((backTo pos (starEach [a, b] X.env)).all (fun x => !x.1) && (backToKw pos (keywordEach [] X.env)).all (fun x => x.1.isSome)
      && decide (([a, b] : List Expr).length + ([] : List Keyword).length + (if ([] : List Keyword).isEmpty then 0 else 1) < 30)) = true := by rw [star2 hp hp2]; rfl
theorem mut1_d {f : String} (d : OI.D) : ∀ d', mutate1 f (.val d') d = none := fun d' => by
  unfold mutate1
  split <;> first | rfl | (rename_i h; cases h)
theorem mut0_d {f : String} : ∀ d', mutate0 f (.val d') = none := fun d' => by
  unfold mutate0
  split <;> first | rfl | (rename_i h; cases h)
theorem lim_lt {n : Nat} (h : n < LIM) : n < sizeLine := Nat.lt_of_lt_of_le h (lim_le (Nat.le_refl _))
/-- o.append(a), o.extend(a) -/
theorem s_app {f : String} {fx : Str} {id : String} {r : V → List V → Hp → VK → Prop} (hK : X.K = c.K) (slot : Slot "list" fx id) (hty : typeOf (.builtin id) = pure (.type "method_descriptor")) (hm : MtM X id r) (hf : f ≠ "update") (hw : ∀ i ∈ io.slot?, i ∈ ws)
    (hr : ∀ (S : Wd) (s : Store) (m m' : M) (d : OI.D) (p : Addr) (y : V) (Q : Hp → Prop), RlS c S s → RepV c S m (.ref p) → RepD c S d y → mutate1 f m d = some m' → (∀ ob, HLo ob → (∀ S' pl, S'.H p = some ob → S'.ow p = some pl → Fr S S' → RepM c S' pl m' (.ref p)) → Q (L2.upd S.H p ob)) → r (.ref p) [y] S.H fun _ H => Q H)
    (ho : PE X o (tE c W (ev R io))) (ha : PE X a (tE c W (ev R ia))) (hpo : plainE o = true) (hpa : plainE a = true) (hline : (apos.endLine == cpos.line) = true) : PS X (.Expr (.Call (.Attribute o fx apos) [a] [] cpos) pos) (tS c W ws (exec R n (.mut1 f io ia))) := by
  refine (ps_expr (pe_bm PySem.F.plainAttrs_list slot hty hm ho (pa1 hpa ha) (plain_base hpo _ _ _) (few1 hpa) hline (plain_star hpa [] X.env) any0) rfl).weak fun D σ H q => ?_
  obtain ⟨S, e, s, rfl, Rr, p⟩ := q
  refine ⟨S, e, s, rfl, Rr, PostS.bindE Rr.toRlS p fun x e1 s1 S1 v q1 R1 st1 rp1 p1 => ?_⟩
  unfold mut1K at p1
  split at p1
  · rename_i hk
    unfold kindOk at hk
    rw [if_neg hf] at hk
    obtain ⟨xs, hx⟩ := Option.isSome_iff_exists.mp hk
    obtain ⟨pv, vs, rfl, hl, _⟩ := lst1_of hx (bw_view R1.toRlS rp1.1)
    refine ⟨.inl ⟨rfl, vs, .inl (.inl hl)⟩, ?_⟩
    obtain ⟨S1', pd, R1', hH, ste⟩ := pend2 R1 rp1
    rw [← hH]
    refine valD_from R1' R1.toRlS ste p1 fun S2 e2 s2 d y R2 st2 rd p2 => ?_
    obtain ⟨a2, m, m', ev, _, hrep, hm', hnx⟩ := at_ok R1 rp1 pd st2 R2 p2 (mut1_d d) hw
    cases ev
    exact hr S2 s2 m m' d pv y (fun H => D.nx σ H) R2.toRlS hrep rd hm' hnx
  · exact p1.elim
/-- o.clear(), o.reverse() -/
theorem s_app0 {f : String} {fx : Str} {id : String} {r : V → List V → Hp → VK → Prop} (hK : X.K = c.K) (slot : Slot "list" fx id) (hty : typeOf (.builtin id) = pure (.type "method_descriptor")) (hm : MtM X id r) (hw : ∀ i ∈ io.slot?, i ∈ ws)
    (hr : ∀ (S : Wd) (s : Store) (m m' : M) (p : Addr) (Q : Hp → Prop), RlS c S s → RepV c S m (.ref p) → mutate0 f m = some m' → (∀ ob, HLo ob → (∀ S' pl, S'.H p = some ob → S'.ow p = some pl → Fr S S' → RepM c S' pl m' (.ref p)) → Q (L2.upd S.H p ob)) → (∃ xs, m = .ol xs) ∧ r (.ref p) [] S.H fun _ H => Q H)
    (ho : PE X o (tE c W (ev R io))) (hpo : plainE o = true) (hline : (apos.endLine == cpos.line) = true) : PS X (.Expr (.Call (.Attribute o fx apos) [] [] cpos) pos) (tS c W ws (exec R n (.mut0 f io))) := by
  refine (ps_expr (pe_bm0 PySem.F.plainAttrs_list slot hty hm ho (plain_base hpo _ _ _) hline) rfl).weak fun D σ H q => ?_
  obtain ⟨S, e, s, rfl, Rr, p⟩ := q
  refine ⟨S, e, s, rfl, Rr, PostS.bindE Rr.toRlS p fun x e1 s1 S1 v q1 R1 st1 rp1 p1 => ?_⟩
  unfold mut0K at p1
  obtain ⟨S1', pd, R1', hH, ste⟩ := pend2 R1 rp1
  rw [← hH]
  obtain ⟨a2, m, m', ev, _, hrep, hm', hnx⟩ := at_ok R1 rp1 pd (StE.refl S1' s1) R1' p1 mut0_d hw
  cases ev
  obtain ⟨⟨xs, hx⟩, h2⟩ := hr S1' s1 m m' a2 (fun H => D.nx σ H) R1'.toRlS hrep hm' hnx
  subst hx
  obtain ⟨p3, vs, e3, h3, _⟩ := hrep
  cases e3
  exact ⟨.inl ⟨rfl, vs, .inl (.inl h3)⟩, h2⟩
/-! the rules -/
theorem len_lst {S : Wd} {s : Store} (Rr : RlS c S s) {p : Addr} {vs : List V} (h : S.H p = some (.lst vs)) : vs.length ≤ 16777216 := (Rr.hl p).1 vs h
theorem r_append (S : Wd) (s : Store) (m m' : M) (d : OI.D) (p : Addr) (y : V) (Q : Hp → Prop) (Rr : RlS c S s) (r : RepV c S m (.ref p)) (rd : RepD c S d y) (h : mutate1 "append" m d = some m') (q : ∀ ob, HLo ob → (∀ S' pl, S'.H p = some ob → S'.ow p = some pl → Fr S S' → RepM c S' pl m' (.ref p)) → Q (L2.upd S.H p ob)) : rAppend (.ref p) [y] S.H fun _ H => Q H := by
  cases m with
  | ol xs =>
    have h : (if xs.length < LIM then some (M.ol (xs ++ [d])) else none) = some m' := h
    split at h
    · rename_i hl
      cases h
      obtain ⟨p', vs, ev, h1, h2⟩ := r
      cases ev
      have hv := h2.length
      refine ⟨p, vs, y, rfl, rfl, h1, by rw [hv]; exact lim_lt hl, q _ (HLo.lst ?_) fun S' pl hH ho f => ⟨p, _, rfl, hH, ho, (h2.mono f).append ⟨y, [], rfl, rd.mono f, rfl⟩⟩⟩
      rw [List.length_append, List.length_singleton, hv]
      have : xs.length < 16777216 := hl
      omega
    · cases h
  | _ => cases h
theorem r_extend (S : Wd) (s : Store) (m m' : M) (d : OI.D) (p : Addr) (y : V) (Q : Hp → Prop) (Rr : RlS c S s) (r : RepV c S m (.ref p)) (rd : RepD c S d y) (h : mutate1 "extend" m d = some m') (q : ∀ ob, HLo ob → (∀ S' pl, S'.H p = some ob → S'.ow p = some pl → Fr S S' → RepM c S' pl m' (.ref p)) → Q (L2.upd S.H p ob)) : rExtend (.ref p) [y] S.H fun _ H => Q H := by
  cases m with
  | ol xs =>
    cases d with
    | lst ys =>
      have h : (if xs.length + ys.length ≤ LIM then some (M.ol (xs ++ ys)) else none) = some m' := h
      split at h
      · rename_i hl
        cases h
        obtain ⟨p', vs, ev, h1, h2⟩ := r
        cases ev
        obtain ⟨p2, ws, rfl, h3, _, h4⟩ := rd
        have hv := h2.length
        have hw := h4.length
        refine ⟨p, p2, vs, ws, rfl, rfl, h1, h3, by rw [hv, hw]; exact lim_le hl, q _ (HLo.lst ?_) fun S' pl hH ho f => ⟨p, _, rfl, hH, ho, (h2.mono f).append (h4.mono f)⟩⟩
        rw [List.length_append, hv, hw]
        exact hl
      · cases h
    | _ => cases h
  | _ => cases h
theorem r_clear (S : Wd) (s : Store) (m m' : M) (p : Addr) (Q : Hp → Prop) (Rr : RlS c S s) (r : RepV c S m (.ref p)) (h : mutate0 "clear" m = some m') (q : ∀ ob, HLo ob → (∀ S' pl, S'.H p = some ob → S'.ow p = some pl → Fr S S' → RepM c S' pl m' (.ref p)) → Q (L2.upd S.H p ob)) : (∃ xs, m = .ol xs) ∧ rClear (.ref p) [] S.H fun _ H => Q H := by
  cases m with
  | ol xs =>
    cases h
    obtain ⟨p', vs, ev, h1, h2⟩ := r
    cases ev
    exact ⟨⟨xs, rfl⟩, p, vs, rfl, rfl, h1, q _ (HLo.lst (Nat.zero_le _)) fun S' pl hH ho f => ⟨p, _, rfl, hH, ho, rfl⟩⟩
  | _ => cases h
theorem r_reverse (S : Wd) (s : Store) (m m' : M) (p : Addr) (Q : Hp → Prop) (Rr : RlS c S s) (r : RepV c S m (.ref p)) (h : mutate0 "reverse" m = some m') (q : ∀ ob, HLo ob → (∀ S' pl, S'.H p = some ob → S'.ow p = some pl → Fr S S' → RepM c S' pl m' (.ref p)) → Q (L2.upd S.H p ob)) : (∃ xs, m = .ol xs) ∧ rReverse (.ref p) [] S.H fun _ H => Q H := by
  cases m with
  | ol xs =>
    cases h
    obtain ⟨p', vs, ev, h1, h2⟩ := r
    cases ev
    exact ⟨⟨xs, rfl⟩, p, vs, rfl, rfl, h1, q _ (HLo.lst (by rw [List.length_reverse]; exact len_lst Rr h1)) fun S' pl hH ho f => ⟨p, _, rfl, hH, ho, (h2.mono f).reverse⟩⟩
  | _ => cases h
end
end OI

/-! OIq: o[i] = v; dicts put. -/
namespace OI
open PySem PySem.Spec PyProof.Rows L2
section
variable {c : Cn} {S : Wd}
theorem kany {k : D} (hk : k.flatKey = true) : ∀ {kvs : List (D × D)} {vs : List V}, RepKs c S false kvs vs → (kvs.any fun p => decide (p.1 = k)) = ((kpairs kvs vs).any fun p => decide (p.1 = keyOf k))
  | [], vs, h => by rw [show vs = [] from h]; rfl
  | (a, e) :: r, vs, ⟨w, q, ev, ha, h1, h2⟩ => by
    subst ev
    show (decide (a = k) || _) = (decide (keyOf a = keyOf k) || _)
    rw [kany hk h2]
    congr 1
    by_cases z : a = k
    · subst z; simp
    · rw [decide_eq_false z, decide_eq_false fun y => z (keyOf_inj ha hk y)]
theorem kmap {k d : D} {v : V} (hk : k.flatKey = true) (rd : RepD c S d v) : ∀ {kvs : List (D × D)} {vs : List V}, RepKs c S false kvs vs →
    ∃ vs', RepKs c S false (kvs.map fun p => if p.1 = k then (p.1, d) else p) vs' ∧ kpairs (kvs.map fun p => if p.1 = k then (p.1, d) else p) vs' = (kpairs kvs vs).map fun p => if p.1 = keyOf k then (p.1, v) else p
  | [], vs, h => by rw [show vs = [] from h]; exact ⟨[], rfl, rfl⟩
  | (a, e) :: r, vs, ⟨w, q, ev, ha, h1, h2⟩ => by
    subst ev
    obtain ⟨vs', i1, i2⟩ := kmap hk rd h2
    by_cases z : a = k
    · subst z
      refine ⟨v :: vs', ?_, ?_⟩
      · rw [List.map_cons, if_pos rfl]
        exact ⟨v, vs', rfl, ha, rd, i1⟩
      · rw [List.map_cons, if_pos rfl]
        show (keyOf a, v) :: kpairs _ vs' = List.map _ ((keyOf a, w) :: kpairs r q)
        rw [i2, List.map_cons, if_pos rfl]
    · have hne : keyOf a ≠ keyOf k := fun y => z (keyOf_inj ha hk y)
      refine ⟨w :: vs', ?_, ?_⟩
      · rw [List.map_cons, if_neg z]
        exact ⟨w, vs', rfl, ha, h1, i1⟩
      · rw [List.map_cons, if_neg z]
        show (keyOf a, w) :: kpairs _ vs' = List.map _ ((keyOf a, w) :: kpairs r q)
        rw [i2, List.map_cons, if_neg hne]
theorem ksnoc {k d : D} {v : V} (hk : k.flatKey = true) (rd : RepD c S d v) : ∀ {kvs : List (D × D)} {vs : List V}, RepKs c S false kvs vs → RepKs c S false (kvs ++ [(k, d)]) (vs ++ [v]) ∧ kpairs (kvs ++ [(k, d)]) (vs ++ [v]) = kpairs kvs vs ++ [(keyOf k, v)]
  | [], vs, h => by rw [show vs = [] from h]; exact ⟨⟨v, [], rfl, hk, rd, rfl⟩, rfl⟩
  | (a, e) :: r, vs, ⟨w, q, ev, ha, h1, h2⟩ => by
    subst ev
    obtain ⟨i1, i2⟩ := ksnoc hk rd h2
    refine ⟨⟨w, q ++ [v], rfl, ha, h1, i1⟩, ?_⟩
    show (keyOf a, w) :: kpairs (r ++ [(k, d)]) (q ++ [v]) = (keyOf a, w) :: (kpairs r q ++ [(keyOf k, v)])
    rw [i2]
theorem kput {k d : D} {v : V} (hk : k.flatKey = true) (rd : RepD c S d v) {kvs : List (D × D)} {vs : List V} (h : RepKs c S false kvs vs) : ∃ vs', RepKs c S false (dput kvs k d) vs' ∧ kpairs (dput kvs k d) vs' = putK (kpairs kvs vs) (keyOf k) v := by
  unfold dput putK
  rw [← kany hk h]
  split
  · exact kmap hk rd h
  · exact ⟨_, ksnoc hk rd h⟩
theorem RepKs.app {kvs more : List (D × D)} {vs ws : List V} : RepKs c S false kvs vs → RepKs c S false more ws → RepKs c S false (kvs ++ more) (vs ++ ws) := by
  induction kvs generalizing vs with
  | nil => intro h h2; rw [show vs = [] from h]; exact h2
  | cons p r ih =>
    obtain ⟨a, e⟩ := p
    intro ⟨w, q, ev, ha, h1, h3⟩ h2
    subst ev
    exact ⟨w, q ++ ws, rfl, ha, h1, ih h3 h2⟩
/-- {..} and d.update -/
theorem kmerge : ∀ {more kvs : List (D × D)} {vs ws : List V}, RepKs c S false kvs vs → RepKs c S false more ws → ∃ vs', RepKs c S false (dmerge kvs more) vs' ∧ kpairs (dmerge kvs more) vs' = mergeK (kpairs kvs vs) (kpairs more ws)
  | [], kvs, vs, ws, h, h2 => by
    rw [show ws = [] from h2]
    exact ⟨vs, h, rfl⟩
  | (k, d) :: more, kvs, vs, ws, h, ⟨w, q, ev, ha, h1, h2⟩ => by
    subst ev
    obtain ⟨vs1, i1, i2⟩ := kput (k := k) ha h1 h
    obtain ⟨vs2, j1, j2⟩ := kmerge i1 h2
    refine ⟨vs2, j1, ?_⟩
    show kpairs (dmerge (dput kvs k d) more) vs2 = mergeK (putK (kpairs kvs vs) (keyOf k) w) (kpairs more q)
    rw [j2, i2]
end

section
variable {X : Cx} {c : Cn} {W : WX} {ws : List Nat} {R : Runs} {n : Nat} {pos tpos : Pos} {o i a : Expr} {io ii ia : IE}
def rSetLD : TSet := fun o i v H Q => rSetL o i v H Q ∨ rSetD o i v H Q
theorem set_LD (hu : X.A.units + 1 < cLine) : PSet X rSetLD := by
  intro pins s σ H o i v ov iv u Q I ro ri rv h
  rcases h with h | h
  · exact set_list pins s σ H o i v ov iv u Q I ro ri rv h
  · exact set_dict hu pins s σ H o i v ov iv u Q I ro ri rv h
theorem set_d {k d : D} : ∀ d', setItem (.val d') k d = none := fun _ => rfl
theorem r_set {S : Wd} {s : Store} {m m' : M} {k d : D} {p : Addr} {y z : V} {Q : Hp → Prop} (Rr : RlS c S s) (r : RepV c S m (.ref p)) (rk : RepD c S k z) (rd : RepD c S d y) (h : setItem m k d = some m') (q : ∀ ob, HLo ob → (∀ S' pl, S'.H p = some ob → S'.ow p = some pl → Fr S S' → RepM c S' pl m' (.ref p)) → Q (L2.upd S.H p ob)) : rSetLD (.ref p) z y S.H Q := by
  cases m with
  | val d' => cases h
  | ol xs =>
    obtain ⟨p', vs, ev, h1, h2⟩ := r
    cases ev
    unfold setItem at h
    dsimp only at h
    split at h
    · rename_i j
      cases e : L2.ixN xs.length j with
      | none => rw [e] at h; cases h
      | some t =>
        rw [e] at h
        have h : some (M.ol (xs.set t d)) = some m' := h
        cases h
        have hl := h2.length
        exact .inl ⟨p, vs, j, t, rfl, rk, h1, by rw [hl]; exact e, q _ (HLo.lst (by rw [List.length_set]; exact len_lst Rr h1)) fun S' pl hH ho f => ⟨p, _, rfl, hH, ho, (h2.mono f).set (rd.mono f) t⟩⟩
    · cases h
  | od t kvs =>
    cases t with
    | true => unfold setItem at h; dsimp only at h; cases h
    | false =>
    obtain ⟨p', vs, ev, h1, h2⟩ := r
    cases ev
    unfold setItem at h
    dsimp only at h
    split at h
    · rename_i hk
      cases h
      obtain ⟨hk1, hk2⟩ := hk
      have hk1 : k.flatKey = true := hk1
      have hz := keyOf_V hk1 rk
      have hlen := RepKs.len2 h2
      refine .inr ⟨p, _, rfl, .inl ⟨kpairs kvs vs, keyOf k, h1, hz, by rw [hlen]; exact lim_lt hk2, rfl⟩, q _ (HLo.dK ?_) fun S' pl hH ho f => ?_⟩
      · have h3 := length_putK (kpairs kvs vs) (keyOf k) y
        have : kvs.length < 16777216 := hk2
        omega
      · obtain ⟨vs', i1, i2⟩ := kput hk1 (rd.mono f) (h2.mono f)
        exact ⟨p, vs', rfl, by rw [hH, ← i2]; rfl, ho, i1⟩
    · cases h
theorem s_setI (hu : X.A.units + 1 < cLine) (hw : ∀ j ∈ io.slot?, j ∈ ws) (hs : ∀ l, swapsWithSole [.Subscript o i tpos] a l X.env = pure false) (hsw : swappedStores [.Subscript o i tpos] a X.env = pure none) (ha : PE X a (tE c W (ev R ia))) (ho : PE X o (tE c W (ev R io))) (hi : PE X i (tE c W (ev R ii)))
    (hasg : ∀ v, assign (.Subscript o i tpos) X.env v = (do
      let ov ← holding [v] (eval o X.env)
      let iv ← holding [v, ov] (eval i X.env)
      standAt tpos
      holding [v, ov, iv] (PySem.setItem ov iv v)
      release [v, ov, iv] [])) : PS X (.Assign [.Subscript o i tpos] a pos) (tS c W ws (exec R n (.setI io ii ia))) := by
  refine (ps_asg ha (pg_sub ho hi (set_LD hu) hasg) (hs _) hsw rfl).weak fun D σ H q => ?_
  obtain ⟨S, e, s, rfl, Rr, p⟩ := q
  refine valD_okS Rr p fun S1 e1 s1 d y R1 st1 rd p1 => ?_
  refine ⟨S1, e1, s1, rfl, R1, PostS.bindE R1.toRlS p1 fun x e2 s2 S2 v q2 R2 st2 rp2 p2 => ?_⟩
  obtain ⟨S2', pd, R2', hH, ste⟩ := pend2 R2 rp2
  rw [← hH]
  refine valD_from R2' R2.toRlS ste p2 fun S3 e3 s3 k z R3 st3 rk p3 => ?_
  obtain ⟨a2, m, m', ev, _, hrep, hm', hnx⟩ := at_ok R2 rp2 pd st3 R3 p3 set_d hw
  subst ev
  exact r_set (Q := fun H3 => D.nx σ H3) R3.toRlS hrep rk (rd.mono ((st2.toFr.trans ste.toFr).trans st3.toFr)) hm' hnx
end
end OI

/-! OIr: what is walked; for, while. -/
namespace OI
open PySem PySem.Spec PyProof.Rows L2

/-- the iterator yields ds at S -/
structure WalksAt (c : Cn) (J : L2.It) (ds : List D) (S : Wd) : Prop where
  go : ∀ i d, ds[i]? = some d → J.go i S.H
  yld : ∀ i d s x H', ds[i]? = some d → RlS c S s → J.yld i S.H x H' → ∃ S', Al S S' ∧ S'.H = H' ∧ RepD c S' d x
  stop : ∀ i, ds.length ≤ i → J.stop i S.H
abbrev rI (c : Cn) : Wd → Store → List D × List Src → L2.It → Prop := fun S s x J => ∀ ws S' s', StS ws S S' s s' → still x.2 s s' = true → apart x.2 ws = true → WalksAt c J x.1 S'
def tI (c : Cn) (W : WX) (f : OI.Env → Store → Res (List D × List Src)) : TI := tG c W f fun _ => rI c
theorem _root_.L2.PI.weak {X : Cx} {tg a : Expr} {t u : TI} (h : PI X tg a u) (k : ∀ σ H Q, t σ H Q → u σ H Q) : PI X tg a t := ⟨fun pins s σ H Q I q => h.run pins s σ H Q I (k σ H Q q)⟩

/-! ### a list, a tuple, a text -/
def iAny (K : PySem.W.Frag) (te : TE) : TI := fun σ H R => te σ H fun x H1 => (∃ a xs, x = .ref a ∧ SqL K H1 a xs ∧ R (Itl K a) H1) ∨ (∃ a xs, x = .ref a ∧ SqT K H1 a xs ∧ R (Itt K a) H1) ∨ ∃ z, x = .str z ∧ R (Its z) H1
theorem pi_any {X : Cx} {tg l : Expr} {te : TE} (hl : PE X l te) : PI X tg l (iAny X.K te) := by
  refine ⟨fun pins s σ H R I h => ?_⟩
  refine thn (hl.run pins s σ H _ I h) fun v s1 ⟨x, H1, I1, r1, q1⟩ => ?_
  rcases q1 with ⟨a, xs, rfl, hq, q⟩ | ⟨a, xs, rfl, hq, q⟩ | ⟨z, rfl, q⟩
  · cases r1
    obtain ⟨its, rv, p, hz⟩ := I1.list hq
    refine wpAny_pyIter_list p.isList ?_
    refine ⟨s1.heap.objs.size, [s1.heap.objs.size], _, _, H1, rfl, I1.kept (t' := s1.toks) fun b o e => Heap.get?_push_of_some _ e, turn_list a _, ⟨_, Heap.get?_push_size _ rfl, rfl, rfl⟩, fun b hb => ?_, q⟩
    have e : b = s1.heap.objs.size := by simpa using hb
    subst e
    exact I1.fpOk (Nat.le_refl _) (I1.hok.fresh (Nat.le_refl _))
  · cases r1
    obtain ⟨its, rv, p, hz⟩ := I1.tuple hq
    refine wpAny_pyIter_tuple (show s1.heap.IsTuple a its.toArray from p) ?_
    refine ⟨s1.heap.objs.size, [s1.heap.objs.size], _, _, H1, rfl, I1.kept (t' := s1.toks) fun b o e => Heap.get?_push_of_some _ e, turn_tuple a _, ⟨_, Heap.get?_push_size _ rfl, rfl, rfl⟩, fun b hb => ?_, q⟩
    have e : b = s1.heap.objs.size := by simpa using hb
    subst e
    exact I1.fpOk (Nat.le_refl _) (I1.hok.fresh (Nat.le_refl _))
  · obtain ⟨t, rfl⟩ := r1
    cases ha : z.cps.all (· < 128)
    · exact wpAny_pyIter_wide ha (pi_one (tk := s1.toks) I1 _ (turn_str _ z t "str_iterator" (.inr rfl)) ⟨_, Heap.get?_push_size _ rfl, rfl, rfl⟩ q)
    · exact wpAny_pyIter_ascii ha (pi_one (tk := s1.toks) I1 _ (turn_str _ z t "str_ascii_iterator" (.inl rfl)) ⟨_, Heap.get?_push_size _ rfl, rfl, rfl⟩ q)

section
variable {c : Cn} {W : WX} {ws : List Nat} {σ : L2.St} {S S' : Wd} {s s' : Store} {e : OI.Env}
/-- what is walked may be read as long as its source was left alone -/
theorem wk_keep {m : M} {pl : Pl} {v : V} (R : RlS c S s) (h : RepM c S pl m v) (hp : pl ≠ .tmp) (st : StS ws S S' s s') (k : still (wk m pl s).2 s s' = true) (ha : apart (wk m pl s).2 ws = true) : RepV c S' (wk m pl s).1 v := by
  have f := st.toFr
  have ent : ∀ n, s[n]? = s'[n]? → ∀ a p, S.ow a = some p → p.src = some n → S'.H a = S.H a := fun n hn a p hp hs => by
    have hlt := R.src a p n hp hs
    have he := List.getElem?_eq_getElem hlt
    exact (st.ent n _ he (hn ▸ he) a p hp hs).1
  have own : m.isVal = false → still pl.walk s s' = true → apart pl.walk ws = true → ∀ a, S.ow a = some pl → S'.H a = S.H a := fun hm k ha a ho => by
    cases pl with
    | slot i =>
      have hi : i ∉ ws := by simpa [Pl.walk, apart] using ha
      exact (st.slot a i hi ho).1
    | fld n g =>
      have hn : s[n]? = s'[n]? := by simpa [Pl.walk, still] using k
      exact ent n hn a _ ho rfl
    | obj n =>
      have hn : s[n]? = s'[n]? := by simpa [Pl.walk, still] using k
      exact ent n hn a _ ho rfl
    | tmp => exact absurd rfl hp
    | oth => exact (st.oth a ho).1
  cases m with
  | val d =>
    cases d with
    | loc n =>
      obtain ⟨a, e1, ha'⟩ := h
      unfold wk at k ha ⊢
      dsimp only at k ha ⊢
      split at k
      · rename_i xs w he
        obtain ⟨h0, vs, h1, h2⟩ := Rl.locs R ha' he
        have hn : s[n]? = s'[n]? := by simpa [still] using k
        exact ⟨a, vs, e1, by rw [ent n hn a _ h0 rfl]; exact h1, h2.mono f⟩
      · rename_i t kvs w he
        obtain ⟨h0, vs, h1, h2⟩ := Rl.locs R ha' he
        have hn : s[n]? = s'[n]? := by simpa [still] using k
        exact ⟨a, vs, e1, by rw [ent n hn a _ h0 rfl]; exact h1, h2.mono f⟩
      · exact ⟨a, e1, f.amAt ha'⟩
    | _ => exact RepD.mono f h
  | ol xs =>
    obtain ⟨p, vs, e1, h1, h2, h3⟩ := h
    exact ⟨p, vs, e1, by rw [own rfl k ha p h2]; exact h1, h3.mono f⟩
  | od t kvs =>
    obtain ⟨p, vs, e1, h1, h2, h3⟩ := h
    exact ⟨p, vs, e1, by rw [own rfl k ha p h2]; exact h1, h3.mono f⟩
theorem gives_list {a : Addr} {ds : List D} {vs : List V} {K : PySem.W.Frag} (hK : K = c.K) (h : SqL c.K S.H a vs) (r : RepDs c S ds vs) : WalksAt c (Itl K a) ds S where
  go := fun i d hd => by
    obtain ⟨v, hv, _⟩ := r.get hd
    rw [hK]
    exact ⟨vs, v, h, hv⟩
  yld := fun i d s x H' hd Rr hy => by
    obtain ⟨e, hy⟩ := hy
    rw [hK] at hy
    obtain ⟨v, hv, rd⟩ := r.get hd
    have := hy vs h
    rw [hv] at this
    cases this
    exact ⟨S, Al.refl Rr, e.symm, rd⟩
  stop := fun i hi => by rw [hK]; exact ⟨vs, h, by rw [r.length]; exact hi⟩
theorem gives_tup {a : Addr} {ds : List D} {vs : List V} {K : PySem.W.Frag} (hK : K = c.K) (h : SqT c.K S.H a vs) (r : RepDs c S ds vs) : WalksAt c (Itt K a) ds S where
  go := fun i d hd => by
    obtain ⟨v, hv, _⟩ := r.get hd
    rw [hK]
    exact ⟨vs, v, h, hv⟩
  yld := fun i d s x H' hd Rr hy => by
    obtain ⟨e, hy⟩ := hy
    rw [hK] at hy
    obtain ⟨v, hv, rd⟩ := r.get hd
    have := hy vs h
    rw [hv] at this
    cases this
    exact ⟨S, Al.refl Rr, e.symm, rd⟩
  stop := fun i hi => by rw [hK]; exact ⟨vs, h, by rw [r.length]; exact hi⟩
theorem gives_rng {lo hi : Int} : WalksAt c (Itr lo (hi - lo).toNat) (rng lo hi) S where
  go := fun i d hd => by
    have h1 := (List.getElem?_eq_some_iff.mp hd).1
    have h2 : i < (hi - lo).toNat := by
      unfold rng at h1
      rw [List.length_map, List.length_range] at h1
      exact h1
    exact h2
  yld := fun i d s x H' hd Rr hy => by
    obtain ⟨e, hx⟩ := hy
    have hlt := (List.getElem?_eq_some_iff.mp hd).1
    have : d = .int (lo + (i : Nat)) := by
      unfold rng at hd
      rw [List.getElem?_map, List.getElem?_range (by simpa [rng] using hlt)] at hd
      exact (Option.some.inj hd).symm
    subst this
    exact ⟨S, Al.refl Rr, e.symm, hx⟩
  stop := fun i hl => by
    have h2 : (hi - lo).toNat ≤ i := by
      unfold rng at hl
      rw [List.length_map, List.length_range] at hl
      exact hl
    exact h2
theorem gives_str {z : Str} : WalksAt c (Its z) (signs z) S where
  go := fun i d hd => by
    have h1 := (List.getElem?_eq_some_iff.mp hd).1
    have h2 : i < z.cps.size := by
      unfold signs at h1
      rw [List.length_map, Array.length_toList] at h1
      exact h1
    exact h2
  yld := fun i d s x H' hd Rr hy => by
    obtain ⟨e, cc, hc, hx⟩ := hy
    have : d = .str ⟨#[cc]⟩ := by
      unfold signs at hd
      rw [List.getElem?_map, Array.getElem?_toList, hc] at hd
      exact (Option.some.inj hd).symm
    subst this
    exact ⟨S, Al.refl Rr, e.symm, hx⟩
  stop := fun i hl => by
    have h2 : z.cps.size ≤ i := by
      unfold signs at hl
      rw [List.length_map, Array.length_toList] at hl
      exact hl
    exact h2
theorem items_how {m : M} {ds : List D} (h : items m = some ds) : m.lst? = some ds ∨ m = .val (.tup ds) ∨ ∃ z, m = .val (.str z) ∧ ds = signs z := by
  unfold items at h
  split at h
  · cases h; exact .inr (.inr ⟨_, rfl, rfl⟩)
  · split at h
    · rename_i xs hs
      cases h
      unfold M.seq? at hs
      split at hs
      · cases hs; exact .inr (.inl rfl)
      · exact .inl hs
    · cases h
end
section
variable {X : Cx} {c : Cn} {W : WX} {R : Runs} {tg a a2 a3 : Expr} {ia ib ic : IE} {p pos : Pos}
theorem s_of (hK : X.K = c.K) (ha : PE X a (tE c W (ev R ia))) : PI X tg a (tI c W (evi R (.of ia))) :=
  (pi_any ha).weak fun σ H Q q => by
    obtain ⟨S, e, s, rfl, Rr, p⟩ := q
    refine ⟨S, e, s, rfl, Rr, PostG.bind Rr.toRlS p fun x e1 s1 S1 v q1 R1 st1 rp1 p1 => ?_⟩
    obtain ⟨S2, pl', R2, hH, ham, rp2, hpl, _, hwk, st2⟩ := pend R1 rp1.1
    replace p1 := PostG.shift R1.toRlS st2 p1
    unfold itK at p1
    rw [← hwk] at p1
    rw [← hH]
    split at p1
    · rename_i xs hx
      have hv : ∀ ws S' s', StS ws S2 S' s1 s' → still (wk x.1 pl' s1).2 s1 s' = true → apart (wk x.1 pl' s1).2 ws = true → RepV c S' (wk x.1 pl' s1).1 v := fun ws S' s' st k ha => wk_keep R2.toRlS rp2 hpl st k ha
      have h0 : RepV c S2 (wk x.1 pl' s1).1 v := hv [] S2 s1 (StS.refl _ _ _) (by simp [still]; intro w _; cases w <;> simp) (by simp [apart]; intro w _; cases w <;> simp)
      rcases items_how hx with h | h | ⟨z, h, hz⟩
      · obtain ⟨a, vs, ev, hl, _⟩ := lst_of h h0
        refine .inl ⟨a, vs, ev, by rw [hK]; exact hl, p1 S2 _ R2 (StE.refl _ _) fun ws S' s' st k ha => ?_⟩
        obtain ⟨b, vs', ev', hl', rd⟩ := lst_of h (hv ws S' s' st k ha)
        rw [ev] at ev'
        cases ev'
        exact gives_list hK hl' rd
      · rw [h] at h0
        obtain ⟨a, vs, ev, hl, _⟩ := h0
        refine .inr (.inl ⟨a, vs, ev, by rw [hK]; exact hl.sq, p1 S2 _ R2 (StE.refl _ _) fun ws S' s' st k ha => ?_⟩)
        have h1 := hv ws S' s' st k ha
        rw [h] at h1
        obtain ⟨b, vs', ev', hl', rd⟩ := h1
        rw [ev] at ev'
        cases ev'
        exact gives_tup hK hl'.sq rd
      · rw [h] at h0
        refine .inr (.inr ⟨z, h0, p1 S2 _ R2 (StE.refl _ _) fun ws S' s' st k ha => ?_⟩)
        rw [hz]
        exact gives_str
    · exact p1.elim
theorem getI_ok {α β : Type} {m : M} {S : Wd} {s : Store} {e : OI.Env} {σ : L2.St} {k : Int → OI.Env → Store → Res α} {rep : Wd → Store → α → β → Prop} {Q : β → Hp → Prop} (h : PostG c W σ S s ((getI m e s).bind k) rep Q) : ∃ i, m = .val (.int i) ∧ -(2 ^ 62) ≤ i ∧ i < 2 ^ 62 ∧ PostG c W σ S s (k i e s) rep Q := by
  unfold getI at h
  split at h
  · rename_i i
    by_cases hi : -(2 ^ 62) ≤ i ∧ i < 2 ^ 62
    · rw [if_pos hi] at h
      exact ⟨i, rfl, hi.1, hi.2, h⟩
    · rw [if_neg hi] at h
      exact h.elim
  · exact h.elim
/-! a range of any ints -/
theorem turn_rangeL {P : Program} {w : World} {K : PySem.W.Frag} {tg : Expr} (it : Addr) (lo : Int) (n : Nat) : Turn P w K tg (Itr lo n) [it] it (fun i h => IsLongIter h it (lo + (i : Nat) * 1) ((n : Int) - (i : Nat)) 1) where
  mem := by simp
  obj := fun i h st b hb => by
    have e : b = it := by simpa using hb
    subst e
    exact ⟨_, st, fun v z => by
      have z' : Data.fields _ = Data.cell v := z
      cases z'⟩
  keep := fun i h h' st k => k it (by simp) _ st
  item := by
    intro X hP hw hK hc i pins s σ H E I hf st hg
    subst hP hw hK
    obtain ⟨f0, f1, f2, f3, f4, f5⟩ := hf it (by simp)
    have W := Walks.longrange (prog := X.prog) (w := X.w) (I.ok.hd hc) it lo 1 n
    refine W.item i s _ _ hg st fun v h' tk hv st' kk => ?_
    obtain ⟨t, rfl⟩ := hv
    have I1 : Inv X pins σ H { s with heap := h', toks := tk } := I.turned (fun b o hb e => kk b o (by simpa using hb) e) f0 f1 f3 f4 f5
    refine ⟨_, rfl, go_of (s := { s with heap := h', toks := tk }) (n := "longrange_iterator") st' rfl rfl (by decide) ⟨.int (lo + i), H, I1, ⟨t, ?_⟩, ⟨rfl, rfl⟩, st', fun b hb => (hf b hb).1⟩⟩
    rw [Int.mul_one]
  done := by
    intro X hP hw hK hc i pins s σ H E I hf st hg
    subst hP hw hK
    obtain ⟨f0, f1, f2, f3, f4, f5⟩ := hf it (by simp)
    exact wpAny_pyNext_long_end (I.ok.hd hc) st (by have : n ≤ i := hg; omega) fun h' eb => ⟨rfl, I.turned (t' := s.toks) (fun b o hb e => eb b o hb e) f0 f1 f3 f4 f5⟩
  self := fun _ _ _ _ _ st h => wpAny_pyIter_longiter st h
theorem range_itZ {pins : List (Addr × Obj)} {σ : L2.St} {H : Hp} {s : Shared} {Q : L2.It → Hp → Prop} {E : Value → Shared → Prop} {lo hi : Int} {t u v : Tok} {tk : Nat} (I : Inv X pins σ H s)
    (q : Q (Itr lo (hi - lo).toNat) H) : wpAny (model X.prog X.w) X.A (pyIter (.ref s.heap.objs.size)) (PIE X pins σ tg Q) E { s with heap := s.heap.push { cls := .type "range", data := .fields #[.int lo t, .int hi u, .int 1 v] }, toks := tk } := by
  have I1 : Inv X pins σ H { s with heap := s.heap.push { cls := .type "range", data := .fields #[.int lo t, .int hi u, .int 1 v] }, toks := tk } := I.kept fun b o e => Heap.get?_push_of_some _ e
  have e1 : lo + ((0 : Nat) : Int) * 1 = lo := by simp
  have e2 : (((hi - lo).toNat : Nat) : Int) - ((0 : Nat) : Int) = Builtin.Range.rangeSize lo hi 1 := by rw [rangeSize_one]; split <;> omega
  have fp : ∀ b ∈ [(s.heap.push { cls := .type "range", data := .fields #[.int lo t, .int hi u, .int 1 v] }).objs.size], FpOk X pins H b := fun b hb => by
    have e : b = (s.heap.push { cls := .type "range", data := .fields #[.int lo t, .int hi u, .int 1 v] }).objs.size := by simpa using hb
    subst e
    exact I1.fpOk (Nat.le_refl _) (I1.hok.fresh (Nat.le_refl _))
  by_cases hs : Builtin.Range.small lo hi 1 = true
  · refine wpAny_pyIter_range (IsRange.new ..) hs ?_
    refine ⟨(s.heap.push { cls := .type "range", data := .fields #[.int lo t, .int hi u, .int 1 v] }).objs.size, [(s.heap.push { cls := .type "range", data := .fields #[.int lo t, .int hi u, .int 1 v] }).objs.size], _, _, H, rfl,
      I1.kept (t' := tk) fun b o e => Heap.get?_push_of_some _ e, turn_range _ lo (hi - lo).toNat, ?_, fp, q⟩
    show IsRangeIter _ _ (lo + ((0 : Nat) : Int) * 1) ((((hi - lo).toNat : Nat) : Int) - ((0 : Nat) : Int)) 1
    rw [e1, e2]
    exact Heap.get?_push_size _ rfl
  · refine wpAny_pyIter_longrange (IsRange.new ..) (by simpa using hs) ?_
    refine ⟨(s.heap.push { cls := .type "range", data := .fields #[.int lo t, .int hi u, .int 1 v] }).objs.size, [(s.heap.push { cls := .type "range", data := .fields #[.int lo t, .int hi u, .int 1 v] }).objs.size], _, _, H, rfl,
      I1.kept (t' := tk) fun b o e => Heap.get?_push_of_some _ e, turn_rangeL _ lo (hi - lo).toNat, ?_, fp, q⟩
    show IsLongIter _ _ (lo + ((0 : Nat) : Int) * 1) ((((hi - lo).toNat : Nat) : Int) - ((0 : Nat) : Int)) 1
    rw [e1, e2]
    exact Heap.get?_push_size _ rfl
def iRng2Z (ta : TA) : TI := fun σ H R => ta σ H fun vs H1 => ∃ i j : Int, vs = [.int i, .int j] ∧ R (Itr i (j - i).toNat) H1
theorem pi_range2Z {a b : Expr} {ta : TA} {p pos : Pos} (hg : Gl X "range") (hm : X.mg "range" = none) (ha : PA X [a, b] ta) (hs : starEach [a, b] X.env = [(false, eval a X.env), (false, eval b X.env)]) (hs2 : starEach [b] X.env = [(false, eval b X.env)]) :
    PI X tg (.Call (.Name "range" p) [a, b] [] pos) (iRng2Z ta) := by
  refine ⟨fun pins s σ H R I h => ?_⟩
  refine Call_ (ld_blt I hg hm boot_range (PyProof.Rows.callWith_type1 (thn (ha.run pos pins s σ H _ I h) fun us s1 ⟨vs, H1, I1, r1, q1⟩ => ?_) (by rw [hs, hs2]) (by rw [hs2]; rfl)))
  obtain ⟨i, j, e, q⟩ := q1
  subst e
  cases r1 with
  | cons r rr =>
    cases rr with
    | cons r' rr =>
      cases rr
      obtain ⟨t, rfl⟩ := r
      obtain ⟨t', rfl⟩ := r'
      exact call_range_2 (range_itZ I1 q)
theorem s_rng1 (hg : Gl X "range") (hm : X.mg "range" = none) (hp : plainE a = true) (ha : PE X a (tE c W (ev R ia))) : PI X tg (.Call (.Name "range" p) [a] [] pos) (tI c W (evi R (.rng1 ia))) :=
  (pi_range1 hg hm (pa1 hp ha) (star1 hp)).weak fun σ H Q q => by
    obtain ⟨S, e, s, rfl, Rr, p⟩ := q
    refine ⟨S, e, s, rfl, Rr, PostG.bind Rr.toRlS p fun x e1 s1 S1 v q1 R1 st1 rp1 p1 => ?_⟩
    unfold rng1K at p1
    obtain ⟨j, hx, h1, h2, p1⟩ := getI_ok p1
    have r := rp1.1
    rw [hx] at r
    refine ⟨j, by rw [show v = V.int j from r], h1, h2, p1 S1 _ R1 (StE.refl _ _) fun ws S' s' _ _ _ => ?_⟩
    have := gives_rng (c := c) (S := S') (lo := 0) (hi := j)
    rw [Int.sub_zero] at this
    exact this
theorem two_I {fa fb : OI.Env → Store → Res (M × Pl)} {k : M → M → OI.Env → Store → Res (List D × List Src)} {σ : L2.St} {H : Hp} {Q : L2.It → Hp → Prop} {rest : V → V → Hp → Prop} (h : tI c W (two fa fb k) σ H Q)
    (hr : ∀ S e s m1 m2 x y, Rl c S e s σ → RepV c S m1 x → RepV c S m2 y → PostG c W σ S s (k m1 m2 e s) (rI c) Q → rest x y S.H) :
    tE c W fa σ H fun x H1 => tE c W fb σ H1 fun y H2 => rest x y H2 := by
  obtain ⟨S, e, s, rfl, Rr, p⟩ := h
  refine ⟨S, e, s, rfl, Rr, PostG.bind Rr.toRlS p fun x1 e1 s1 S1 v1 q1 R1 st1 rp1 p1 => ?_⟩
  obtain ⟨S1', pl', R1', hH, ham, rp1', hpl, hbw, _, st1'⟩ := pend R1 rp1.1
  replace p1 := PostG.shift R1.toRlS st1' p1
  refine ⟨S1', e1, s1, hH, R1', PostG.bind R1'.toRlS p1 fun x2 e2 s2 S2 v2 q2 R2 st2 rp2 p2 => ?_⟩
  split at p2
  · rename_i hs
    rw [← hbw] at hs p2
    exact hr S2 e2 s2 _ _ v1 v2 R2 (bw_keep R1'.toRlS rp1' hpl st2 hs) (bw_view R2.toRlS rp2.1) p2
  · exact p2.elim
theorem s_rng2 (hg : Gl X "range") (hm : X.mg "range" = none) (hp : plainE a = true) (ha : PE X a (tE c W (ev R ia))) (hp2 : plainE a2 = true) (hb : PE X a2 (tE c W (ev R ib))) : PI X tg (.Call (.Name "range" p) [a, a2] [] pos) (tI c W (evi R (.rng2 ia ib))) :=
  (pi_range2Z hg hm (pa2 hp ha hp2 hb) (star2 hp hp2) (star1 hp2)).weak fun σ H Q q => two_I q fun S e s m1 m2 x y Rr r1 r2 p => by
    unfold rng2K at p
    split at p
    · rename_i i j
      exact ⟨i, j, by rw [show x = V.int i from r1, show y = V.int j from r2], p S _ Rr (StE.refl _ _) fun ws S' s' _ _ _ => gives_rng⟩
    · exact p.elim

/-! ### for, while -/
variable {ws : List Nat} {n : Nat}
theorem s_for {iter : Expr} {body : List Stmt} {t : Tg} {it : OI.It} {ib : ISs} (hK : X.K = c.K) (hp : PassesOwn (model X.prog X.w) X.A X.env X.xe) (hc : X.calm = true) (hi : PI X tg iter (tI c W (evi R it))) (hg : PG X tg (gT X.K t)) (hw : ∀ i ∈ t.slots ++ wrs ib, i ∈ ws)
    (hb : PSs X body (tS c W (t.slots ++ wrs ib) (execs R n ib))) (hs : ∀ x, foldedSetIterable iter X.env x = pure x) : PS X (.For tg iter body [] pos) (tS c W ws (exec R n (.fors t it ib))) :=
  (ps_for hp hc hi hg hb hs).weak fun D σ H q => by
    obtain ⟨S, e, s, rfl, Rr, p⟩ := q
    refine ⟨S, e, s, rfl, Rr, PostS.bindE Rr.toRlS p fun x e1 s1 S1 J q1 R1 st1 rj p1 => ?_⟩
    split at p1
    · rename_i hap
      refine ⟨fun i m σ H => m = x.1.length - i ∧ i ≤ x.1.length ∧ ∃ S e s, S.H = H ∧ Rl c S e s σ ∧ StS (t.slots ++ wrs ib) S1 S s1 s ∧ PostS c W (t.slots ++ wrs ib) S s (forL x.2 s1 t (execs R n ib) (x.1.drop i) e s) D, ⟨x.1.length, rfl, Nat.zero_le _, S1, e1, s1, rfl, R1, StS.refl _ _ _, p1.mono hw⟩, ?_⟩
      rintro i m σ2 H2 ⟨rfl, hi, S2, e2, s2, rfl, R2, st2, p2⟩
      by_cases hlt : i < x.1.length
      · rw [List.drop_eq_getElem_cons hlt] at p2
        unfold forL at p2
        split at p2
        · rename_i hst
          have hg := rj _ S2 s2 st2 hst hap
          have hd : x.1[i]? = some x.1[i] := List.getElem?_eq_getElem hlt
          split at p2
          · exact p2.elim
          · rename_i e3 he3
            refine .inr ⟨hg.go i _ hd, fun σ' H' => (i + 1) ≤ x.1.length ∧ ∃ S e s, S.H = H' ∧ Rl c S e s σ' ∧ StS (t.slots ++ wrs ib) S1 S s1 s ∧ PostS c W (t.slots ++ wrs ib) S s (forL x.2 s1 t (execs R n ib) (x.1.drop (i + 1)) e s) D, fun σ' H' ⟨h1, h2⟩ => ⟨x.1.length - (i + 1), by omega, rfl, h1, h2⟩, fun y H' hy => ?_⟩
            obtain ⟨S3, al, hH, rd⟩ := hg.yld i _ s2 y H' hd R2.toRlS hy
            subst hH
            have R3 := al.rl R2
            refine tg_ok (m := .val x.1[i]) hK R3 rd he3 fun S4 σ4 hH4 R4 st4 _ => ?_
            have st14 := ((st2.trans R1.dom ((al.ste R2.dom s2).sts _)).trans R1.dom (st4.mono fun j hj => List.mem_append_left _ hj))
            have st24 : StS (t.slots ++ wrs ib) S2 S4 s2 s2 := ((al.ste R2.dom s2).sts _).trans R2.dom (st4.mono fun j hj => List.mem_append_left _ hj)
            have p4 := PostS.shift R2.toRlS st24 p2
            have p5 := PostS.bindS (N := fun σ' H' => (i + 1) ≤ x.1.length ∧ ∃ S e s, S.H = H' ∧ Rl c S e s σ' ∧ StS (t.slots ++ wrs ib) S1 S s1 s ∧ PostS c W (t.slots ++ wrs ib) S s (forL x.2 s1 t (execs R n ib) (x.1.drop (i + 1)) e s) D) R4.toRlS p4 fun e5 s5 S5 σ5 q5 R5 st5 p5 => ⟨hlt, S5, e5, s5, rfl, R5, st14.trans R1.dom st5, p5⟩
            refine ⟨S4, e3, s2, rfl, R4, ?_⟩
            revert p5
            generalize execs R n ib e3 s2 = r
            intro p5
            cases r with
            | ok f e' s' => cases f <;> exact p5
            | err k e' s' => exact p5
            | bad => exact p5
        · exact p2.elim
      · have hie : i = x.1.length := by omega
        subst hie
        rw [List.drop_length] at p2
        unfold forL at p2
        split at p2
        · rename_i hst
          have hg := rj _ S2 s2 st2 hst hap
          exact .inl ⟨hg.stop _ (Nat.le_refl _), p2 S2 σ2 R2 (StS.refl _ _ _)⟩
        · exact p2.elim
    · exact p1.elim
theorem s_while {t : Expr} {body : List Stmt} {it : IE} {ib : ISs} (hp : PassesOwn (model X.prog X.w) X.A X.env X.xe) (ht : PT X t (tT c W (ev R it))) (hb : PSs X body (tS c W ws (execs R n ib))) : PS X (.While t body [] pos) (tS c W ws (exec R n (.whil it ib))) :=
  (ps_while hp ht hb).weak fun D σ H q => by
    obtain ⟨S, e, s, rfl, Rr, p⟩ := q
    refine ⟨fun m σ H => ∃ S e s, S.H = H ∧ Rl c S e s σ ∧ PostS c W ws S s (whileL (testS (ev R it)) (execs R n ib) m e s) D, ⟨n, S, e, s, rfl, Rr, p⟩, ?_⟩
    rintro m σ2 H2 ⟨S2, e2, s2, rfl, R2, p2⟩
    cases m with
    | zero => exact p2.elim
    | succ m =>
      unfold whileL at p2
      refine test_okS R2 p2 fun S3 e3 s3 b R3 st3 p3 => ?_
      cases b with
      | true =>
        have p3 : PostS c W ws S3 s3 ((execs R n ib e3 s3).bind fun f e s => match f with
          | .nx => whileL (testS (ev R it)) (execs R n ib) m e s
          | .ret m => .ok (.ret m) e s) D := p3
        rw [if_pos rfl]
        refine ⟨fun σ' H' => ∃ S e s, S.H = H' ∧ Rl c S e s σ' ∧ PostS c W ws S s (whileL (testS (ev R it)) (execs R n ib) m e s) D, fun σ' H' h => ⟨m, Nat.lt_succ_self m, h⟩, ?_⟩
        have p5 := PostS.bindS (N := fun σ' H' => ∃ S e s, S.H = H' ∧ Rl c S e s σ' ∧ PostS c W ws S s (whileL (testS (ev R it)) (execs R n ib) m e s) D) R3.toRlS p3 fun e5 s5 S5 σ5 q5 R5 st5 p5 => ⟨S5, e5, s5, rfl, R5, p5⟩
        refine ⟨S3, e3, s3, rfl, R3, ?_⟩
        revert p5
        generalize execs R n ib e3 s3 = r
        intro p5
        cases r with
        | ok f e' s' => cases f <;> exact p5
        | err k e' s' => exact p5
        | bad => exact p5
      | false =>
        rw [if_neg Bool.false_ne_true]
        exact p3 S3 σ2 R3 (StS.refl _ _ _)
end
end OI

/-! OIs: list comprehensions. -/
namespace OI
open PySem PySem.Spec PyProof.Rows L2
/-- no exception leaves -/
abbrev WN : WX := fun _ _ _ _ => False
section
variable {c : Cn} {W : WX} {σ σ2 : L2.St} {S S1 : Wd} {s s1 : Store} {e : OI.Env}
theorem quiet_ok {α β γ δ : Type} {r : Res α} {k : α → OI.Env → Store → Res γ} {rep : Wd → Store → α → β → Prop} {rep' : Wd → Store → γ → δ → Prop} {Q : δ → Hp → Prop} {G : β → Hp → Prop} (h : PostG c W σ S1 s1 ((quiet r).bind k) rep' Q)
    (g : ∀ x e2 s2 S2 y, r = .ok x e2 s2 → Rl c S2 e2 s2 σ2 → StE S S2 s s2 → rep S2 s2 x y → PostG c W σ S1 s1 (k x e2 s2) rep' Q → G y S2.H) : PostG c WN σ2 S s r rep G := by
  cases r with
  | ok x e2 s2 => exact fun S2 y R2 st rp => g x e2 s2 S2 y rfl R2 st rp h
  | err k' e2 s2 => exact h.elim
  | bad => exact h.elim
/-- the names of a block are forgotten -/
theorem wipe_len (e : OI.Env) : ∀ own : List Nat, (OI.wipe e own).length = e.length
  | [] => rfl
  | i :: own => by unfold OI.wipe; rw [List.length_set, wipe_len e own]
theorem wipe_get {i : Nat} {m : M} : ∀ {own : List Nat}, (OI.wipe e own)[i]? = some (some m) → e[i]? = some (some m) ∧ i ∉ own
  | [], h => ⟨h, by simp⟩
  | j :: own, h => by
    unfold OI.wipe at h
    by_cases z : j = i
    · subst z
      rw [List.getElem?_set] at h
      split at h
      · split at h <;> cases h
      · rename_i z; exact absurd rfl z
    · rw [List.getElem?_set_ne z] at h
      obtain ⟨h1, h2⟩ := wipe_get h
      exact ⟨h1, fun w => by
        rw [List.mem_cons] at w
        rcases w with w | w
        · exact z w.symm
        · exact h2 w⟩
theorem wipeS_get {i : Nat} {v : V} : ∀ {own : List Nat}, i ∉ own → σ[i]? = some (some v) → (L2.wipe σ own)[i]? = some (some v)
  | [], _, h => h
  | j :: own, hn, h => by
    rw [List.mem_cons, not_or] at hn
    unfold L2.wipe
    rw [List.getElem?_set_ne (fun z => hn.1 z.symm)]
    exact wipeS_get hn.2 h
theorem Rl.wiped (R : Rl c S e s σ2) {own : List Nat} (h : L2.wipe σ2 own = L2.wipe σ own) : Rl c S (OI.wipe e own) s (L2.wipe σ own) where
  toRlS := R.toRlS
  elen := by rw [wipe_len, R.elen, ← h, L2.wipe_length]
  slot := fun i m hi => by
    obtain ⟨h1, h2⟩ := wipe_get hi
    obtain ⟨v, h3, h4⟩ := R.slot i m h1
    exact ⟨v, by rw [← h]; exact wipeS_get h2 h3, h4⟩
theorem back_get {e0 : OI.Env} {i : Nat} {m : M} : ∀ {own : List Nat}, (back e0 e own)[i]? = some (some m) → (i ∈ own ∧ e0[i]? = some (some m)) ∨ (i ∉ own ∧ e[i]? = some (some m))
  | [], h => .inr ⟨by simp, h⟩
  | j :: own, h => by
    unfold back at h
    by_cases z : j = i
    · subst z
      rw [List.getElem?_set] at h
      rw [if_pos rfl] at h
      split at h
      · have h := Option.some.inj h
        refine .inl ⟨List.mem_cons_self .., ?_⟩
        rw [List.getD_eq_getElem?_getD] at h
        cases q : e0[j]? with
        | none => rw [q] at h; cases h
        | some o => rw [q] at h; rw [show o = some m from h]
      · cases h
    · rw [List.getElem?_set_ne z] at h
      rcases back_get h with ⟨h1, h2⟩ | ⟨h1, h2⟩
      · exact .inl ⟨List.mem_cons_of_mem _ h1, h2⟩
      · exact .inr ⟨fun w => by
          rw [List.mem_cons] at w
          rcases w with w | w
          · exact z w.symm
          · exact h1 w, h2⟩
theorem back_len (e0 e : OI.Env) : ∀ own : List Nat, (back e0 e own).length = e.length
  | [] => rfl
  | i :: own => by unfold back; rw [List.length_set, back_len e0 e own]
/-- behind the block -/
theorem Rl.backed {e1 : OI.Env} {own : List Nat} (R1 : Rl c S1 e1 s1 σ) (hw : wipeOk e1 own = true) (f : Fr S1 S) (R : Rl c S e s (L2.wipe σ own)) : Rl c S (back e1 e own) s σ where
  toRlS := R.toRlS
  elen := by rw [back_len, R.elen, L2.wipe_length]
  slot := fun i m hi => by
    rcases back_get hi with ⟨h1, h2⟩ | ⟨h1, h2⟩
    · obtain ⟨v, h3, h4⟩ := R1.slot i m h2
      refine ⟨v, h3, ?_⟩
      unfold wipeOk at hw
      rw [List.all_eq_true] at hw
      have := hw i h1
      rw [h2] at this
      cases m with
      | val d => exact RepD.mono f h4
      | ol xs => cases this
      | od t kvs => cases this
    · obtain ⟨v, h3, h4⟩ := R.slot i m h2
      exact ⟨v, (L2.wipe_some h3).1, h4⟩
/-- the list that is made, laid ahead of the walk -/
theorem lay_oth {p : Addr} {o : HO} (R : Rl c S e s σ) (hp : S.H p = none) (ho : HLo o) : Rl c (S.put p o (some .oth)) e s σ ∧ StE S (S.put p o (some .oth)) s s := by
  have al : Al S (S.put p o (some .tmp)) := Al.lay R.toRlS hp (.inr rfl) ho
  have R2 := al.rl R
  have ho2 : (S.put p o (some .tmp)).ow p = some .tmp := put_ow
  have e2 : (S.put p o (some .tmp)).lab p (some .oth) = S.put p o (some .oth) := by
    unfold Wd.lab Wd.put
    congr 1
    funext a
    by_cases z : a = p
    · rw [if_pos z, if_pos z]
    · rw [if_neg z, if_neg z]
      exact if_neg z
  rw [← e2]
  exact ⟨lab_tmp R2 ho2, (al.ste R.dom s).trans R.dom (lab_ste ho2)⟩
/-- .. and handed on when it is done -/
theorem oth_tmp {p : Addr} (R0 : RlS c S1 s1) (hp : S1.H p = none) {S2 : Wd} (R : Rl c S e s σ) (st : StE S1 S s1 s) (ho : S.ow p = some .oth) : Rl c (S.lab p (some .tmp)) e s σ ∧ StE S1 (S.lab p (some .tmp)) s1 s := by
  have ne : ∀ {a : Addr} {x : Pl}, S.ow a = some x → x ≠ .oth → a ≠ p := fun h1 h2 z => by subst z; rw [ho] at h1; cases h1; exact h2 rfl
  have old : ∀ {a : Addr}, S1.H a ≠ none → a ≠ p := fun h z => by subst z; exact h hp
  have oldq : ∀ {a : Addr} {q : Pl}, S1.ow a = some q → a ≠ p := fun h => old (R0.dom _ (by rw [h]; simp))
  refine ⟨R.step (lab_fr (by rw [ho]; simp)) (fun a x n hx hn => ⟨rfl, by rw [lab_ne (ne hx (fun z => by subst z; cases hn))]; exact hx⟩) (fun a i hx => ⟨rfl, by rw [lab_ne (ne hx (fun z => nomatch z))]; exact hx⟩) rfl (lab_dom R.dom (by rw [ho]; simp)) (lab_src R.src (by intro x hx; cases hx; rfl)) R.hl, ?_⟩
  refine ⟨⟨⟨fun a o h1 h2 => ?_, st.am⟩, st.ver, fun n en h1 h2 a q hq hn => ?_, fun a hq => ?_⟩, fun a i hq => ?_⟩
  · obtain ⟨x, y⟩ := st.keep a o h1 h2
    exact ⟨x, by rw [lab_ne (old (by rw [h1]; simp))]; exact y⟩
  · obtain ⟨x, y⟩ := st.ent n en h1 h2 a q hq hn
    exact ⟨x, by rw [lab_ne (oldq hq)]; exact y⟩
  · obtain ⟨x, y⟩ := st.oth a hq
    exact ⟨x, by rw [lab_ne (oldq hq)]; exact y⟩
  · obtain ⟨x, y⟩ := st.slot a i hq
    exact ⟨x, by rw [lab_ne (oldq hq)]; exact y⟩
/-- it is written -/
theorem oth_upd {p : Addr} {o : HO} (R : Rl c S e s σ) (h : S.ow p = some .oth) (ho : HLo o) : Rl c (S.upd p o) e s σ ∧ Fr S (S.upd p o) ∧ ∀ {S1 : Wd} {s1 : Store}, RlS c S1 s1 → S1.H p = none → StE S1 S s1 s → StE S1 (S.upd p o) s1 s := by
  have hH : ∀ {b : Addr}, b ≠ p → (S.upd p o).H b = S.H b := fun hb => upd_ne hb
  have ne : ∀ {b : Addr} {q : Pl}, S.ow b = some q → q ≠ .oth → b ≠ p := fun h1 h2 z => by subst z; rw [h] at h1; cases h1; exact h2 rfl
  have fr : Fr S (S.upd p o) := ⟨fun b u h1 h2 => ⟨by rw [hH (fun z => by subst z; rw [h] at h2; cases h2)]; exact h1, h2⟩, [], by simp [Wd.upd]⟩
  refine ⟨R.step fr (fun b q n h1 h2 => ⟨hH (ne h1 fun z => by subst z; cases h2), h1⟩) (fun b i h1 => ⟨hH (ne h1 fun z => nomatch z), h1⟩) rfl (fun b hb => ?_) R.src (R.hl.put ho), fr, fun {S1 s1} R0 hp st => ?_⟩
  · by_cases z : b = p
    · subst z
      show L2.upd S.H b o b ≠ none
      rw [upd_same]
      simp
    · rw [hH z]
      exact R.dom b hb
  · have old : ∀ {a : Addr}, S1.H a ≠ none → a ≠ p := fun h1 z => by subst z; exact h1 hp
    have oldq : ∀ {a : Addr} {q : Pl}, S1.ow a = some q → a ≠ p := fun h1 => old (R0.dom _ (by rw [h1]; simp))
    refine ⟨⟨⟨fun a u h1 h2 => ?_, st.am⟩, st.ver, fun n en h1 h2 a q hq hn => ?_, fun a hq => ?_⟩, fun a i hq => ?_⟩
    · obtain ⟨x, y⟩ := st.keep a u h1 h2
      exact ⟨by rw [hH (old (by rw [h1]; simp))]; exact x, y⟩
    · obtain ⟨x, y⟩ := st.ent n en h1 h2 a q hq hn
      exact ⟨by rw [hH (oldq hq)]; exact x, y⟩
    · obtain ⟨x, y⟩ := st.oth a hq
      exact ⟨by rw [hH (oldq hq)]; exact x, y⟩
    · obtain ⟨x, y⟩ := st.slot a i hq
      exact ⟨by rw [hH (oldq hq)]; exact x, y⟩
theorem tg_val {K : PySem.W.Frag} (hK : K = c.K) {t : Tg} {d : D} {v : V} {e2 : OI.Env} {Q : L2.St → Hp → Prop} (R : Rl c S e s σ) (r : RepD c S d v) (h : store t (.val d) e = some e2) (q : ∀ σ', Rl c S e2 s σ' → (∀ own : List Nat, (∀ i ∈ t.slots, i ∈ own) → L2.wipe σ' own = L2.wipe σ own) → Q σ' S.H) : gT K t v σ S.H Q := by
  cases t with
  | one i =>
    unfold store at h
    dsimp only at h
    split at h
    · rename_i hi
      cases h
      exact q _ (set_val R hi r) fun own ho => wipe_set (ho i (List.mem_cons_self ..))
    · cases h
  | many is =>
    unfold store at h
    dsimp only at h
    split at h
    · rename_i ds hd
      cases hd
      obtain ⟨p, vs, rfl, hf, rd⟩ := r
      obtain ⟨hl, hq⟩ := names_ok R rd h fun σ' R' hw => q σ' R' hw
      rw [hK]
      exact ⟨p, vs, rfl, hf.sq, hl, hq⟩
    · cases h
theorem wipe_wipe : ∀ (own : List Nat), L2.wipe (L2.wipe σ own) own = L2.wipe σ own := fun own => by
  have : ∀ (l : List Nat) (ρ : L2.St), (∀ i ∈ l, i ∈ own) → L2.wipe (L2.wipe ρ l) own = L2.wipe ρ own := by
    intro l
    induction l with
    | nil => intro ρ _; rfl
    | cons j l ih =>
      intro ρ h
      show L2.wipe ((L2.wipe ρ l).set j none) own = _
      rw [wipe_set (h j (List.mem_cons_self ..)), ih ρ fun i hi => h i (List.mem_cons_of_mem _ hi)]
  exact this own σ fun i hi => hi
/-- an element's value, no exception leaving -/
theorem valD_quiet {fa : OI.Env → Store → Res (M × Pl)} {α γ : Type} {k : D → OI.Env → Store → Res α} {rep' : Wd → Store → α → γ → Prop} {Q : γ → Hp → Prop} {rest : V → Hp → Prop} (Rr : Rl c S e s σ2)
    (h : PostG c W σ S1 s1 ((quiet (valD fa e s)).bind k) rep' Q) (hr : ∀ S2 e2 s2 d v, Rl c S2 e2 s2 σ2 → StE S S2 s s2 → RepD c S2 d v → PostG c W σ S1 s1 (k d e2 s2) rep' Q → rest v S2.H) : tE c WN fa σ2 S.H rest := by
  refine ⟨S, e, s, rfl, Rr, ?_⟩
  unfold valD at h
  cases w : fa e s with
  | ok x e1 s3 =>
    rw [w] at h
    intro S3 v R3 st3 rp3
    have h : PostG c W σ S1 s1 ((quiet ((vl x.1 x.2 e1 s3).bind fun m e2 s2 => .ok m.frz e2 s2)).bind k) rep' Q := h
    rcases vl_cases R3 rp3 with hb | ⟨S4, m, e2, he, R4, st4, hH, rp4⟩
    · rw [hb] at h
      exact h.elim
    · rw [he] at h
      obtain ⟨S5, R5, hH5, hd, st5⟩ := frz_ste R4 rp4
      rw [← hH, ← hH5]
      exact hr S5 e2 s3 m.frz v R5 ((st3.trans Rr.dom st4).trans Rr.dom st5) hd h
  | err k' e1 s3 => rw [w] at h; exact h.elim
  | bad => rw [w] at h; exact h.elim
end
section
variable {X : Cx} {c : Cn} {W : WX} {R : Runs}
abbrev tC (c : Cn) (W : WX) (f : OI.Env → Store → Res Bool) : TT := tG c W f fun _ => rB
theorem s_ifs0 : PTs X [] (tC c WN (evc R .no)) := ⟨fun pins s σ H Q I h => by
  obtain ⟨S, e, s', rfl, Rr, p⟩ := h
  exact pts_nil.run pins s σ S.H Q I (p S true Rr (StE.refl _ _) rfl)⟩
theorem s_ifs1 {a : Expr} {ia : IE} (h : PT X a (tT c WN (ev R ia))) : PTs X [a] (tC c WN (evc R (.yes ia))) := ⟨fun pins s σ H Q I q => (pts_one h).run pins s σ H Q I q⟩
theorem lc_weak {elt : IE} {t : Tg} {it : OI.It} {co : IO} {own : List Nat} {K : PySem.W.Frag} (hK : K = c.K) (ho : ∀ i ∈ t.slots, i ∈ own) {σ : L2.St} {H : Hp} {Q : VK} (q : tE c W (ev R (.lc elt t it co own)) σ H Q) :
    tLc (tI c W (evi R it)) (gT K t) (tC c WN (evc R co)) (tE c WN (ev R elt)) own σ H Q := by
  obtain ⟨S, e, s, rfl, Rr, p⟩ := q
  refine ⟨S, e, s, rfl, Rr, PostG.bind Rr.toRlS p fun x e1 s1 S1 J q1 R1 st1 rj p1 => ?_⟩
  unfold lcK at p1
  split at p1
  · rename_i hw
    obtain ⟨hw, hlim⟩ := hw
    intro Dd hD
    obtain ⟨R2, st2⟩ := lay_oth R1 hD (HLo.lst (xs := []) (Nat.zero_le _))
    refine ⟨fun i m H => m = x.1.length - i ∧ i ≤ x.1.length ∧ ∃ S e s acc vs, S.H = H ∧ Rl c S e s (L2.wipe σ own) ∧ StE S1 S s1 s ∧ S.ow Dd = some .oth ∧ S.H Dd = some (.lst vs) ∧ RepDs c S acc vs ∧ acc.length ≤ i ∧
      PostG c W σ S1 s1 ((lcL x.2 s1 own t (evc R co) (valD (ev R elt)) (x.1.drop i) acc e s).bind (lcEnd e1 own)) (rM c σ) Q,
      ⟨x.1.length, rfl, Nat.zero_le _, S1.put Dd (.lst []) (some .oth), OI.wipe e1 own, s1, [], [], rfl, R2.wiped rfl, st2, put_ow, put_H, rfl, Nat.zero_le _, p1⟩, ?_⟩
    rintro i m H2 ⟨rfl, hi, S2, e2, s2, acc, vs, rfl, R2, st2, hod, hHd, racc, hacc, p2⟩
    have walk : still x.2 s1 s2 = true → WalksAt c J x.1 S2 := fun k => rj [] S2 s2 (st2.sts []) k (by simp [apart]; intro w _; cases w <;> simp)
    by_cases hlt : i < x.1.length
    · rw [List.drop_eq_getElem_cons hlt] at p2
      unfold lcL at p2
      split at p2
      · rename_i hst
        have hg := walk hst
        have hd : x.1[i]? = some x.1[i] := List.getElem?_eq_getElem hlt
        split at p2
        · exact p2.elim
        · rename_i e3 he3
          rw [Res.bind_bind] at p2
          refine .inr ⟨hg.go i _ hd, fun H' => (i + 1) ≤ x.1.length ∧ ∃ S e s acc vs, S.H = H' ∧ Rl c S e s (L2.wipe σ own) ∧ StE S1 S s1 s ∧ S.ow Dd = some .oth ∧ S.H Dd = some (.lst vs) ∧ RepDs c S acc vs ∧ acc.length ≤ i + 1 ∧
            PostG c W σ S1 s1 ((lcL x.2 s1 own t (evc R co) (valD (ev R elt)) (x.1.drop (i + 1)) acc e s).bind (lcEnd e1 own)) (rM c σ) Q, fun H' ⟨h1, h2⟩ => ⟨x.1.length - (i + 1), by omega, rfl, h1, h2⟩, fun y H' hy => ?_⟩
          obtain ⟨S3, al, hH, rd⟩ := hg.yld i _ s2 y H' hd R2.toRlS hy
          subst hH
          have R3 := al.rl R2
          have a3 := al.at R2.dom hod
          have st3 := st2.trans R1.dom (al.ste R2.dom s2)
          refine tg_val hK R3 rd he3 fun σ4 R4 hwp => ?_
          have hwp := (hwp own ho).trans (wipe_wipe own)
          refine ⟨hwp, S3, e3, s2, rfl, R4, quiet_ok p2 fun b e5 s5 S5 b' q5 R5 st5 rb p5 => ?_⟩
          cases rb
          have a5 := st5.oth Dd a3.2
          have st15 := st3.trans R1.dom st5
          have r5 : RepDs c S5 acc vs := (racc.mono al.fr).mono st5.toFr
          have h5 : S5.H Dd = some (.lst vs) := by rw [a5.1, a3.1]; exact hHd
          cases b with
          | true =>
            rw [if_pos rfl] at p5 ⊢
            rw [Res.bind_bind] at p5
            refine valD_quiet R5 p5 fun S6 e6 s6 d v R6 st6 rd6 p6 => ?_
            have a6 := st6.oth Dd a5.2
            have h6 : S6.H Dd = some (.lst vs) := by rw [a6.1]; exact h5
            have hl := racc.length
            have hlen : (vs ++ [v]).length ≤ 16777216 := by
              rw [List.length_append, List.length_singleton, hl]
              have : x.1.length ≤ 16777216 := hlim
              omega
            obtain ⟨R7, fr7, st7⟩ := oth_upd R6 a6.2 (HLo.lst hlen)
            refine ⟨vs, h6, ?_, hlt, S6.upd Dd (.lst (vs ++ [v])), _, s6, acc ++ [d], vs ++ [v], rfl, R7.wiped hwp, st7 R1.toRlS hD (st15.trans R1.dom st6), a6.2, upd_same, ((r5.mono st6.toFr).mono fr7).append ⟨v, [], rfl, rd6.mono fr7, rfl⟩, ?_, p6⟩
            · rw [hl, sizeLine_eq]
              have : x.1.length ≤ 16777216 := hlim
              omega
            · rw [List.length_append, List.length_singleton]
              omega
          | false =>
            rw [if_neg Bool.false_ne_true] at p5 ⊢
            exact ⟨hlt, S5, _, s5, acc, vs, rfl, R5.wiped hwp, st15, a5.2, h5, r5, by omega, p5⟩
      · exact p2.elim
    · have hie : i = x.1.length := by omega
      subst hie
      rw [List.drop_length] at p2
      unfold lcL at p2
      split at p2
      · rename_i hst
        have hg := walk hst
        refine .inl ⟨hg.stop _ (Nat.le_refl _), ?_⟩
        have Rb := R1.backed hw st2.toFr R2
        obtain ⟨R3, st3⟩ := oth_tmp (S2 := S2) R1.toRlS hD Rb st2 hod
        exact p2 (S2.lab Dd (some .tmp)) (.ref Dd) R3 st3 ⟨⟨Dd, vs, rfl, hHd, lab_same, racc.mono (lab_fr (by rw [hod]; simp))⟩, trivial⟩
      · exact p2.elim
  · exact p1.elim
end
end OI

/-! OIt: a container shared; a def by its body. -/
namespace OI
open PySem PySem.Spec PyProof.Rows L2
section
variable {c : Cn} {S S1 : Wd} {s : Store} {e : OI.Env} {σ : L2.St}
/-- one more object of the store -/
theorem grow {p : Addr} {o : SObj} (R : Rl c S e s σ) (h : S.ow p = some .tmp) (ho : ∀ S', S'.H = S.H → Fr S S' → RepO c S' s.length p o) : ∃ S', S'.H = S.H ∧ S'.am[s.length]? = some p ∧ Rl c S' e (s ++ [⟨o, 0⟩]) σ ∧ StE S S' s (s ++ [⟨o, 0⟩]) := by
  have len := R.len
  refine ⟨⟨S.am ++ [p], fun a => if a = p then some (.obj s.length) else S.ow a, S.H⟩, rfl, ?_, ?_⟩
  · show (S.am ++ [p])[s.length]? = some p
    rw [← len]
    simp
  have owp : ∀ {a : Addr}, a ≠ p → (if a = p then some (Pl.obj s.length) else S.ow a) = S.ow a := fun h => if_neg h
  have ne : ∀ {a : Addr} {x : Pl}, S.ow a = some x → x ≠ .tmp → a ≠ p := fun h1 h2 z => by subst z; rw [h] at h1; cases h1; exact h2 rfl
  have fr : Fr S ⟨S.am ++ [p], fun a => if a = p then some (.obj s.length) else S.ow a, S.H⟩ := ⟨fun a u h1 h2 => ⟨h1, (owp (fun z => by subst z; rw [h] at h2; cases h2)).trans h2⟩, [p], rfl⟩
  have ver : VerS s (s ++ [⟨o, 0⟩]) := fun n en hn => ⟨en, by rw [List.getElem?_append_left (List.getElem?_eq_some_iff.mp hn).1]; exact hn, Nat.le_refl _, fun _ => rfl⟩
  refine ⟨⟨⟨by show (S.am ++ [p]).length = _; rw [List.length_append, List.length_append, len]; rfl, fun n en hn => ?_, fun a ha => ?_, fun a q n h1 h2 => ?_, R.hl⟩, R.elen, fun i m hi => ?_⟩, ⟨⟨fr, ver, fun n en h1 h2 a q hq hn => ⟨rfl, (owp (ne hq (fun z => by subst z; cases hn))).trans hq⟩, fun a hq => ⟨rfl, (owp (ne hq (fun z => nomatch z))).trans hq⟩⟩, fun a i hq => ⟨rfl, .inl ((owp (ne hq (fun z => nomatch z))).trans hq)⟩⟩⟩
  · by_cases hlt : n < s.length
    · rw [List.getElem?_append_left hlt] at hn
      obtain ⟨a, h1, h2, h3⟩ := R.obj n en hn
      refine ⟨a, fr.amAt h1, (owp (ne h2 (fun z => nomatch z))).trans h2, h3.step fr rfl fun b g hb => ⟨rfl, (owp (ne hb (fun z => nomatch z))).trans hb⟩⟩
    · have hlt2 := (List.getElem?_eq_some_iff.mp hn).1
      rw [List.length_append, List.length_singleton] at hlt2
      have : n = s.length := by omega
      subst this
      rw [List.getElem?_append_right (Nat.le_refl _), Nat.sub_self] at hn
      cases hn
      refine ⟨p, ?_, if_pos rfl, ho _ rfl fr⟩
      show (S.am ++ [p])[s.length]? = some p
      rw [← len]
      simp
  · by_cases z : a = p
    · subst z
      exact R.dom a (by rw [h]; simp)
    · have ha : (if a = p then some (Pl.obj s.length) else S.ow a) ≠ none := ha
      rw [owp z] at ha
      exact R.dom a ha
  · have h1 : (if a = p then some (Pl.obj s.length) else S.ow a) = some q := h1
    rw [List.length_append, List.length_singleton]
    by_cases z : a = p
    · rw [if_pos z] at h1
      cases h1
      cases h2
      omega
    · rw [owp z] at h1
      have := R.src a q n h1 h2
      omega
  · obtain ⟨v, h1, h2⟩ := R.slot i m hi
    exact ⟨v, h1, h2.step fr fun b hb => ⟨rfl, (owp (ne hb (fun z => nomatch z))).trans hb⟩⟩
variable {X : Cx} {W : WX} {R : Runs} {a : Expr} {ia : IE}
theorem share_weak {σ : L2.St} {H : Hp} {Q : VK} (q : tE c W (ev R (.share ia)) σ H Q) : tE c W (ev R ia) σ H Q := by
  obtain ⟨S, e, s, rfl, Rr, p⟩ := q
  refine ⟨S, e, s, rfl, Rr, PostG.bind Rr.toRlS p fun x e1 s1 S1 v q1 R1 st1 rp1 p1 => ?_⟩
  obtain ⟨m, pl⟩ := x
  obtain ⟨r1, r2⟩ := rp1
  unfold shareK at p1
  cases pl with
  | tmp =>
    cases m with
    | val d => exact p1 S1 v R1 (StE.refl _ _) ⟨r1, trivial⟩
    | ol xs =>
      obtain ⟨p, vs, ev, h1, h2, h3⟩ := r1
      obtain ⟨S', hH, ha, R', st⟩ := grow (o := .lst xs) R1 h2 fun S' hH f => ⟨vs, by rw [hH]; exact h1, h3.mono f⟩
      have := p1 S' v R' st ⟨⟨p, ev, ha⟩, trivial⟩
      rw [hH] at this
      exact this
    | od t kvs =>
      obtain ⟨p, vs, ev, h1, h2, h3⟩ := r1
      obtain ⟨S', hH, ha, R', st⟩ := grow (o := .dic t kvs) R1 h2 fun S' hH f => ⟨vs, by rw [hH]; exact h1, h3.mono f⟩
      have := p1 S' v R' st ⟨⟨p, ev, ha⟩, trivial⟩
      rw [hH] at this
      exact this
  | _ => exact p1.elim
theorem s_share (ha : PE X a (tE c W (ev R ia))) : PE X a (tE c W (ev R (.share ia))) := ha.weak fun σ H Q q => share_weak q
end
end OI

/-! OIu: a product; a def by its body. -/
namespace OI
open PySem PySem.Spec PyProof.Rows L2
section
variable {X : Cx} {c : Cn}
theorem len_rep {α : Type} (xs : List α) : ∀ k : Nat, (List.replicate k xs).flatten.length = k * xs.length
  | 0 => by simp
  | k + 1 => by rw [List.replicate_succ, List.flatten_cons, List.length_append, len_rep xs k, Nat.succ_mul, Nat.add_comm]
theorem v_mul (hK : X.K = c.K) : OpR X (binaryOp .Mult) (R2of c (bin .mul)) := by
  intro pins sh σ H x y v u Q I rx ry h
  obtain ⟨S, s, m1, m2, m, rfl, Rr, r1, r2, hm, q⟩ := h
  have lst : ∀ {xs : List D} {k : Int}, m1.lst1? = some xs → m2 = .val (.int k) → (0 ≤ k ∧ k < 2 ^ 62 ∧ xs.length * k.toNat ≤ LIM) → m = .ol (List.replicate k.toNat xs).flatten → wpAny (model X.prog X.w) X.A (binaryOp .Mult v u) (EP X pins σ Q) X.xe sh := fun {xs k} hx e2 hk em => by
    subst e2 em
    obtain ⟨p, vs, rfl, hl, rd⟩ := lst1_of hx r1
    obtain ⟨k1, k2, k3⟩ := hk
    have hv := rd.length
    have hlen : (List.replicate k.toNat vs).flatten.length ≤ 16777216 := by
      rw [len_rep, Nat.mul_comm, hv]
      exact k3
    refine op_rep pins sh σ S.H _ y v u Q I rx ry ⟨p, k, vs, rfl, r2, hl, by omega, by omega, by rw [hv]; exact lim_le k3, fun a na => ?_⟩
    obtain ⟨S', al, hH, rp⟩ := new_lst Rr na (rd.flatten k.toNat) hlen
    rw [← hH]
    exact q S' _ al rp
  replace hm : mulM m1 m2 = some m := hm
  unfold mulM at hm
  split at hm
  · rename_i i j
    split at hm
    · rename_i hc
      cases hm
      refine op_mul pins sh σ S.H x y v u Q I rx ry ⟨i, j, r1, r2, hc, q S _ (Al.refl Rr) rfl⟩
    · cases hm
  · rename_i xs k
    split at hm
    · rename_i hk
      cases hm
      obtain ⟨k1, k2, k3, k4⟩ := hk
      obtain ⟨p, vs, rfl, hf, rd⟩ := r1
      have hv := rd.length
      have hne : vs ≠ [] := fun z => by
        rw [z] at hv
        simp at hv
        omega
      have hlen : (List.replicate k.toNat vs).flatten.length ≤ 16777216 := by
        rw [len_rep, hv]
        have : k.toNat ≤ 1000 := by omega
        calc k.toNat * xs.length ≤ 1000 * 1000 := Nat.mul_le_mul this k4
          _ ≤ 16777216 := by omega
      refine op_repT pins sh σ S.H _ y v u Q I rx ry ⟨p, k, vs, rfl, r2, by rw [hK]; exact hf.sq, hne, k1, k2, by rw [hv]; exact k4, fun a na => ?_⟩
      obtain ⟨S', al, hH, rp⟩ := new_tup Rr na (rd.flatten k.toNat) hlen
      rw [← hH]
      exact q S' _ al rp
    · cases hm
  · rename_i k hx hy
    split at hm
    · rename_i xs hl
      split at hm
      · rename_i hk
        cases hm
        exact lst hl rfl hk rfl
      · cases hm
    · cases hm
  · cases hm
/-- a test of what is none of the special forms -/
def plainT : Expr → Bool
  | .UnaryOp .Not _ _ => false
  | .BoolOp _ _ _ => false
  | .IfExp _ _ _ _ => false
  | .Compare _ _ _ _ => false
  | _ => true
theorem plain_test {a : Expr} (h : plainT a = true) (env : PySem.Env) (whole : Sem Value) : isTrue a env whole = (do let v ← whole; standAt a.pos; holding [v] (truthy v)) := by
  cases a with
  | UnaryOp op _ _ => cases op <;> first | rfl | cases h
  | BoolOp => cases h
  | IfExp => cases h
  | Compare => cases h
  | _ => rfl
theorem noBool {a : Expr} (h : plainT a = true) {W : WX} {f : OI.Env → Store → Res (M × Pl)} : ∀ op vs pos, a = .BoolOp op vs pos → PW X a (tT c W f) := fun op vs pos e => by subst e; cases h
theorem se_of {a : Expr} {W : WX} {f : OI.Env → Store → Res (M × Pl)} (h : plainT a = true) (he : PE X a (tE c W f)) : SE X c W a f := ⟨he, pt_of_pe he fun w => plain_test h X.env w, noBool h⟩
end

/-! ### what a call leaves -/
section
variable {c : Cn}
mutual
theorem RepD.trunc {S' S'' : Wd} {n : Nat} (hH : S''.H = S'.H) (how : ∀ a, S'.ow a = none → S''.ow a = none) (ham : ∀ k, k < n → S''.am[k]? = S'.am[k]?) : ∀ {d : D} {v : V}, D.locsLt n d = true → RepD c S' d v → RepD c S'' d v
  | .non, _, _, h => h
  | .bl _, _, _, h => h
  | .int _, _, _, h => h
  | .str _, _, _, h => h
  | .tup xs, _, hl, ⟨p, vs, e, h1, h2⟩ => ⟨p, vs, e, h1.elim (fun h => .inl ⟨by rw [hH]; exact h.1, how _ h.2⟩) .inr, RepDs.trunc hH how ham hl h2⟩
  | .lst xs, _, hl, ⟨p, vs, e, h1, h2, h3⟩ => ⟨p, vs, e, by rw [hH]; exact h1, how _ h2, RepDs.trunc hH how ham hl h3⟩
  | .dic t kvs, _, hl, ⟨p, vs, e, h1, h2, h3⟩ => ⟨p, vs, e, by rw [hH]; exact h1, how _ h2, RepKs.trunc hH how ham hl h3⟩
  | .scr ns, _, _, ⟨p, e, h⟩ => ⟨p, e, h.elim (fun h => .inl ⟨by rw [hH]; exact h.1, how _ h.2⟩) .inr⟩
  | .loc k, _, hl, ⟨a, e, h⟩ => ⟨a, e, by rw [ham k (of_decide_eq_true hl)]; exact h⟩
  | .exn _, _, _, h => h
  | .lam _ _, _, _, h => False.elim h
theorem RepDs.trunc {S' S'' : Wd} {n : Nat} (hH : S''.H = S'.H) (how : ∀ a, S'.ow a = none → S''.ow a = none) (ham : ∀ k, k < n → S''.am[k]? = S'.am[k]?) : ∀ {d : List D} {v : List V}, D.locsLts n d = true → RepDs c S' d v → RepDs c S'' d v
  | [], _, _, h => h
  | d :: ds, _, hl, ⟨v, r, e, h1, h2⟩ => by
    unfold D.locsLts at hl
    rw [Bool.and_eq_true] at hl
    exact ⟨v, r, e, RepD.trunc hH how ham hl.1 h1, RepDs.trunc hH how ham hl.2 h2⟩
theorem RepKs.trunc {S' S'' : Wd} {n : Nat} (hH : S''.H = S'.H) (how : ∀ a, S'.ow a = none → S''.ow a = none) (ham : ∀ k, k < n → S''.am[k]? = S'.am[k]?) {t : Bool} : ∀ {d : List (D × D)} {v : List V}, D.locsLtk n d = true → RepKs c S' t d v → RepKs c S'' t d v
  | [], _, _, h => h
  | (k, d) :: ds, _, hl, ⟨v, r, e, h0, h1, h2⟩ => by
    unfold D.locsLtk at hl
    rw [Bool.and_eq_true, Bool.and_eq_true] at hl
    exact ⟨v, r, e, h0, RepD.trunc hH how ham hl.1.2 h1, RepKs.trunc hH how ham hl.2 h2⟩
end
def dropP (n : Nat) (q : Option Pl) : Option Pl :=
  match q with
  | some (.fld k f) => if k < n then some (.fld k f) else some .oth
  | some (.obj k) => if k < n then some (.obj k) else some .oth
  | some (.slot _) => some .oth
  | x => x
theorem dropP_none {n : Nat} {q : Option Pl} : dropP n q = none ↔ q = none := by
  cases q with
  | none => simp [dropP]
  | some p => cases p <;> simp [dropP] <;> split <;> simp
theorem dropP_src {n k : Nat} {p : Pl} (h : p.src = some k) (hk : k < n) : dropP n (some p) = some p := by
  cases p with
  | fld j f => cases h; simp [dropP, hk]
  | obj j => cases h; simp [dropP, hk]
  | _ => cases h
theorem gc_ok {S S' : Wd} {s s' : Store} {m : M} {v : V} (R0 : RlS c S s) (ns : NoSl S) (R' : RlS c S' s') (st : StC S S' s s') (r : RepM c S' .tmp m v) :
    ∃ S'', S''.H = S'.H ∧ RlS c S'' (gc s m s') ∧ StC S S'' s (gc s m s') ∧ NoSl S'' ∧ RepM c S'' .tmp m v := by
  unfold gc
  split
  · rename_i hg
    obtain ⟨hs, hl⟩ := hg
    have same : ∀ n en, s[n]? = some en → s'[n]? = some en := fun n en h => by
      have hlt := (List.getElem?_eq_some_iff.mp h).1
      have : (s'.take s.length)[n]? = s'[n]? := List.getElem?_take_of_lt hlt
      rw [hs] at this
      rw [← this]
      exact h
    have ent : ∀ p q n, S.ow p = some q → q.src = some n → S'.H p = S.H p ∧ S'.ow p = some q ∧ n < s.length := fun p q n h1 h2 => by
      have hlt := R0.src p q n h1 h2
      have he := List.getElem?_eq_getElem hlt
      obtain ⟨x, y⟩ := st.ent n _ he (same n _ he) p q h1 h2
      exact ⟨x, y, hlt⟩
    have fr : Fr S ⟨S.am, fun a => dropP s.length (S'.ow a), S'.H⟩ := ⟨fun a o h1 h2 => by
      obtain ⟨x, y⟩ := st.keep a o h1 h2
      exact ⟨x, dropP_none.mpr y⟩, [], by simp⟩
    have k : ∀ p q n, S.ow p = some q → q.src = some n → S'.H p = S.H p ∧ dropP s.length (S'.ow p) = some q := fun p q n h1 h2 => by
      obtain ⟨x, y, z⟩ := ent p q n h1 h2
      exact ⟨x, by rw [y]; exact dropP_src h2 z⟩
    refine ⟨⟨S.am, fun a => dropP s.length (S'.ow a), S'.H⟩, rfl, R0.step fr k rfl (fun a ha => R'.dom a fun z => ha (dropP_none.mpr z)) (fun a q n h1 h2 => ?_) R'.hl, ⟨fr, VerS.refl s, fun n en _ _ a p h1 h2 => k a p n h1 h2, fun a ha => ?_⟩, fun a i ha => ?_, ?_⟩
    · have h1 : dropP s.length (S'.ow a) = some q := h1
      cases e : S'.ow a with
      | none => rw [e] at h1; cases h1
      | some p =>
        rw [e] at h1
        cases p with
        | fld j f =>
          unfold dropP at h1
          dsimp only at h1
          split at h1
          · cases h1; cases h2; assumption
          · cases h1; cases h2
        | obj j =>
          unfold dropP at h1
          dsimp only at h1
          split at h1
          · cases h1; cases h2; assumption
          · cases h1; cases h2
        | slot j => cases h1; cases h2
        | tmp => cases h1; cases h2
        | oth => cases h1; cases h2
    · obtain ⟨x, y⟩ := st.oth a ha
      exact ⟨x, by show dropP s.length (S'.ow a) = _; rw [y]; rfl⟩
    · have ha : dropP s.length (S'.ow a) = some (.slot i) := ha
      cases e : S'.ow a with
      | none => rw [e] at ha; cases ha
      | some p =>
        rw [e] at ha
        cases p <;> unfold dropP at ha <;> dsimp only at ha <;> first | cases ha | (split at ha <;> cases ha)
    · have how : ∀ a, S'.ow a = none → dropP s.length (S'.ow a) = none := fun a h => dropP_none.mpr h
      have ham : ∀ j, j < s.length → S.am[j]? = S'.am[j]? := fun j hj => by
        obtain ⟨more, e⟩ := st.am
        rw [e, List.getElem?_append_left (by rw [R0.len]; exact hj)]
      cases m with
      | val d => exact RepD.trunc (S' := S') (S'' := ⟨S.am, fun a => dropP s.length (S'.ow a), S'.H⟩) rfl how ham hl r
      | ol xs =>
        obtain ⟨p, vs, e, h1, h2, h3⟩ := r
        exact ⟨p, vs, e, h1, by show dropP _ (S'.ow p) = _; rw [h2]; rfl, RepDs.trunc (S' := S') (S'' := ⟨S.am, fun a => dropP s.length (S'.ow a), S'.H⟩) rfl how ham hl h3⟩
      | od t kvs =>
        obtain ⟨p, vs, e, h1, h2, h3⟩ := r
        exact ⟨p, vs, e, h1, by show dropP _ (S'.ow p) = _; rw [h2]; rfl, RepKs.trunc (S' := S') (S'' := ⟨S.am, fun a => dropP s.length (S'.ow a), S'.H⟩) rfl how ham hl h3⟩
  · have sim := mask_sim S'
    refine ⟨S'.mask, rfl, sim.rls R', ⟨st.toFr.trans sim.fr, st.ver, fun n en h1 h2 a p h3 h4 => ?_, fun a ha => ?_⟩, mask_noSl S', sim.repM r fun p hp => ?_⟩
    · obtain ⟨x, y⟩ := st.ent n en h1 h2 a p h3 h4
      exact ⟨x, by rw [mask_ne (fun i z => by rw [y] at z; cases z; cases h4)]; exact y⟩
    · obtain ⟨x, y⟩ := st.oth a ha
      exact ⟨x, by rw [mask_ne (fun i z => by rw [y] at z; cases z)]; exact y⟩
    · rw [mask_ne (fun i z => by rw [hp] at z; cases z)]
      exact hp
theorem begun_rl {S : Wd} {s : Store} {fn : Fn} {ds : List D} {vs : List V} {N : List Str} (R : RlS c S s) (r : RepDs c S ds vs) (hn : fn.ns = N.length) (hl : ds.length ≤ fn.ns) : Rl c S (begun fn ds) s (L2.start N vs) where
  toRlS := R
  elen := by
    unfold begun L2.start
    rw [List.length_append, List.length_append, List.length_map, List.length_map, List.length_replicate, List.length_replicate, r.length, hn]
  slot := fun i m hi => by
    unfold begun at hi
    have hlt : i < ds.length := by
      by_cases h : i < ds.length
      · exact h
      · rw [List.getElem?_append_right (by rw [List.length_map]; omega), List.getElem?_replicate] at hi
        split at hi <;> cases hi
    rw [List.getElem?_append_left (by rw [List.length_map]; exact hlt), List.getElem?_map] at hi
    cases e : ds[i]? with
    | none => rw [e] at hi; cases hi
    | some d =>
      rw [e] at hi
      cases hi
      obtain ⟨v, hv, rd⟩ := r.get e
      refine ⟨v, ?_, rd⟩
      unfold L2.start
      rw [List.getElem?_append_left (by rw [List.length_map, r.length]; exact hlt), List.getElem?_map, hv]
      rfl
/-- what the body is asked, from the def's promise -/
theorem body_of {ws : List Nat} {R : Runs} {n : Nat} {fn : Fn} {S : Wd} {s : Store} {ds : List D} {vs : List V} {N : List Str} {Q : VK} {E : XK} (R0 : RlS c S s) (ns : NoSl S) (r : RepDs c S ds vs) (hn : fn.ns = N.length) (hl : ds.length ≤ fn.ns)
    (p : PostF c S s (fin s (execs R n fn.body (begun fn ds) s)) Q E) : tS c (fun cls d _ H => E cls d H) ws (execs R n fn.body) { nx := fun _ H' => Q .non H', rt := Q } (L2.start N vs) S.H := by
  refine ⟨S, begun fn ds, s, rfl, begun_rl R0 r hn hl, ?_⟩
  cases h : execs R n fn.body (begun fn ds) s with
  | ok f e' s' =>
    rw [h] at p
    cases f with
    | nx =>
      intro S' σ' R' st
      obtain ⟨S'', hH, R'', st'', ns'', rp⟩ := gc_ok (m := .val .non) (v := .non) R0 ns R'.toRlS st.toStC rfl
      have := p S'' .non R'' st'' ns'' rp
      rw [hH] at this
      exact this
    | ret m =>
      intro S' v R' st rp
      obtain ⟨S'', hH, R'', st'', ns'', rp⟩ := gc_ok R0 ns R' st rp
      have := p S'' v R'' st'' ns'' rp
      rw [hH] at this
      exact this
  | err k e' s' =>
    rw [h] at p
    intro S' σ' R' st
    obtain ⟨S'', hH, R'', st'', ns'', rp⟩ := gc_ok (m := .val .non) (v := .non) R0 ns R'.toRlS st.toStC rfl
    have := p S'' R'' st'' ns''
    rw [hH] at this
    exact this
  | bad => rw [h] at p; exact p
/-- A DEF OF THE TEXT: its promise, from its body -/
theorem def_ok {P : Program} {w : World} {K : PySem.W.Frag} {mg : Str → Option Value} {base : Heap} {x qual : Str} {st : Stmt} {f : Addr} {fd : FuncData} {N ps : List Str} {k n m : Nat} {Pg : Prog} {name : String} {fn : Fn} {ws : List Nat} (F : L2.Fun K x qual st f fd) (Sc : FnScope N ps (defScope st))
    (hf : look Pg name = some fn) (hnp : ps.length = fn.np) (hns : fn.ns = N.length)
    (hbody : ∀ (cdv : Value) (A : Around) (outer : List PySem.Env) (s : Shared) (H : Hp) (E : XK), Room k (A.deeper (envOfC qual (defScope st) s.heap.objs.size f cdv)) →
      PSs (cxOf (L2.CX P w) P w K mg base N qual (defScope st) f cdv A outer s H E) (defBody st) (tS c (fun cls d _ H => E cls d H) ws (execs (run Pg m n) m fn.body))) :
    FnOk P w K mg base (L2.CX P w) (k + 1) f fd ps (spF c (run Pg m (n + 1)) name fn.np) := by
  refine F.okX Sc (fun vs H Q E h => ?_) fun cdv A outer s H vs Q E hr h => ⟨_, hbody cdv A outer s H E hr, ?_⟩
  · obtain ⟨S, s, ds, _, _, _, r, hl, _⟩ := h
    rw [r.length, hl, hnp]
  · obtain ⟨S, s, ds, rfl, R0, ns, r, hl, p⟩ := h
    unfold run at p
    rw [hf] at p
    dsimp only at p
    split at p
    · rename_i hh
      exact body_of R0 ns r hns (by omega) p
    · exact p.elim
end
end OI

/-! OIu1: more lifts of expressions: attributes, chains, methods of built-ins. -/
namespace OI
open PySem PySem.Spec PyProof.Rows L2
section
variable {X : Cx} {c : Cn} {W : WX} {R : Runs} {a b d : Expr} {ia ib id : IE} {pos apos cpos : Pos}
/-- o.f -/
theorem s_attr {f : String} (hK : X.K = c.K) (hC : ∀ k, Cls X.K (c.icl k)) (hA : ∀ k, NoAttr X.K (c.icl k) (Str.ofString f)) (hp : plainE a = true) (ha : PE X a (tE c W (ev R ia))) : PE X (.Attribute a (Str.ofString f) pos) (tE c W (ev R (.attr ia f))) :=
  (pe_fld ha (plain_base hp _ _ _)).weak fun σ H Q q => by
    obtain ⟨S, e, s, rfl, Rr, p⟩ := q
    refine ⟨S, e, s, rfl, Rr, PostG.bind Rr.toRlS p fun x e1 s1 S1 v q1 R1 st1 rp1 p1 => ?_⟩
    unfold attrK at p1
    split at p1
    · rename_i n hx
      split at p1
      · rename_i k fs w he
        split at p1
        · rename_i m hf
          have r := rp1.1
          rw [hx] at r
          obtain ⟨ad, ev, ha⟩ := r
          obtain ⟨ho, dx, gs, h1, h2, h3⟩ := Rl.locs R1.toRlS ha he
          obtain ⟨y, hy, ry⟩ := h2.get hf
          exact ⟨ad, c.icl k, dx, gs, y, ev, h1, hC k, hA k, hy, p1 S1 y R1 (StE.refl _ _) ⟨ry, ad, c.icl k, dx, gs, ha, h1, hy⟩⟩
        · exact p1.elim
      · exact p1.elim
    · exact p1.elim
/-- a op b op2 d -/
theorem chain_ok {op op2 : COp} {σ : L2.St} {H : Hp} {Q : VK} (q : tE c W (ev R (.chain op op2 ia ib id)) σ H Q) : tChain (R2b c (cmp op)) (R2b c (cmp op2)) (tE c W (ev R ia)) (tE c W (ev R ib)) (tE c W (ev R id)) σ H Q := by
  obtain ⟨S, e, s, rfl, Rr, p⟩ := q
  refine ⟨S, e, s, rfl, Rr, PostG.bind Rr.toRlS p fun x1 e1 s1 S1 v1 q1 R1 st1 rp1 p1 => ?_⟩
  obtain ⟨S1', pl', R1', hH, ham, rp1', hpl, hbw, _, st1'⟩ := pend R1 rp1.1
  replace p1 := PostG.shift R1.toRlS st1' p1
  refine ⟨S1', e1, s1, hH, R1', PostG.bind R1'.toRlS p1 fun x2 e2 s2 S2 v2 q2 R2 st2 rp2 p2 => ?_⟩
  split at p2
  · rename_i hs
    rw [← hbw] at hs p2
    have rx := bw_keep R1'.toRlS rp1' hpl st2 hs
    have ry := bw_view R2.toRlS rp2.1
    generalize (bw x1.1 pl' s1).1 = m1 at rx p2
    generalize (bw x2.1 x2.2 s2).1 = m2 at ry p2
    unfold valK at p2
    dsimp only at p2
    split at p2
    · rename_i hv
      unfold chainK at p2
      split at p2
      · rename_i hc
        refine ⟨S2, s2, m1, m2, true, rfl, R2.toRlS, rx, ry, hc, true, rfl, ?_⟩
        rw [if_pos rfl]
        refine ⟨S2, e2, s2, rfl, R2, PostG.bind R2.toRlS p2 fun x3 e3 s3 S3 v3 q3 R3 st3 rp3 p3 => ?_⟩
        obtain ⟨b2, hb2, p3⟩ := outB_ok p3
        have ry' : RepV c S3 m2 v2 := by
          cases m2 with
          | val d => exact RepD.mono st3.toFr ry
          | _ => cases hv
        exact ⟨S3, s3, m2, _, b2, rfl, R3.toRlS, ry', bw_view R3.toRlS rp3.1, hb2, end_val R3 p3 rfl⟩
      · rename_i hc
        refine ⟨S2, s2, m1, m2, false, rfl, R2.toRlS, rx, ry, hc, false, rfl, ?_⟩
        rw [if_neg Bool.false_ne_true]
        exact end_val R2 p2 rfl
      · exact p2.elim
    · exact p2.elim
  · exact p2.elim
theorem last_marks {o o2 : CmpOp} {b d : Expr} (h : plainE d = true) : lastMarks [o, o2] [b, d] = false := plain_marks h o2
theorem s_chain {op op2 : COp} {o o2 : CmpOp} (ho : OpR X (compareOp o) (R2b c (cmp op))) (ho2 : OpR X (compareOp o2) (R2b c (cmp op2))) (hd : plainE d = true) (ha : PE X a (tE c W (ev R ia))) (hb : PE X b (tE c W (ev R ib))) (hc : PE X d (tE c W (ev R id))) : SE X c W (.Compare a [o, o2] [b, d] pos) (ev R (.chain op op2 ia ib id)) :=
  ⟨(pe_chain ho ho2 ha hb hc (last_marks hd)).weak fun σ H Q q => chain_ok q, (pt_chain ho ho2 ha hb hc (last_marks hd)).weak fun σ H Q q => chain_ok (testB_val q), fun op vs p e => by cases e⟩
/-- o.index(a), o.count(a) -/
theorem s_bmL {m : String} {fx : Str} {id' : String} (hK : X.K = c.K) (slot : Slot "list" fx id') (hty : typeOf (.builtin id') = pure (.type "method_descriptor")) (hm : MtR X id' (R1m c (bm1 m))) (hb : m = "index" ∨ m = "count") (ho : PE X a (tE c W (ev R ia))) (ha : PE X b (tE c W (ev R ib))) (hpo : plainE a = true) (hpa : plainE b = true)
    (hline : (apos.endLine == cpos.line) = true) : PE X (.Call (.Attribute a fx apos) [b] [] cpos) (tE c W (ev R (.bm1 m ia ib))) :=
  (pe_bm PySem.F.plainAttrs_list slot hty hm ho (pa1 hpa ha) (plain_base hpo _ _ _) (by rw [star1 hpa]; rfl) hline (plain_star hpa [] X.env) any0).weak fun σ H Q q => by
    obtain ⟨S, e, s, rfl, Rr, p⟩ := q
    refine ⟨S, e, s, rfl, Rr, PostG.bind Rr.toRlS p fun x1 e1 s1 S1 v1 q1 R1 st1 rp1 p1 => ?_⟩
    split at p1
    · rename_i hk
      unfold bmOk at hk
      rw [if_pos hb] at hk
      obtain ⟨xs, hx⟩ := Option.isSome_iff_exists.mp hk
      obtain ⟨pv, vs, rfl, hl, _⟩ := lst_of hx (bw_view R1.toRlS rp1.1)
      refine ⟨.inl ⟨rfl, vs, by rw [hK]; exact hl⟩, ?_⟩
      obtain ⟨S1', pl', R1', hH, ham, rp1', hpl, hbw, _, st1'⟩ := pend R1 rp1.1
      replace p1 := PostG.shift R1.toRlS st1' p1
      refine ⟨S1', e1, s1, hH, R1', PostG.bind R1'.toRlS p1 fun x2 e2 s2 S2 v2 q2 R2 st2 rp2 p2 => ?_⟩
      unfold bm1K at p2
      split at p2
      · rename_i hs
        rw [← hbw] at hs p2
        obtain ⟨m3, hm3, p2⟩ := out_ok p2
        exact ⟨S2, s2, _, _, v2, m3, rfl, rfl, R2.toRlS, bw_keep R1'.toRlS rp1' hpl st2 hs, bw_view R2.toRlS rp2.1, hm3, fun S' v al rp => end_al R2 p2 al rp⟩
      · exact p2.elim
    · exact p1.elim
/-- o.join(a), o.split(a) -/
theorem s_bmS {m : String} {fx : Str} {id' : String} (slot : Slot "str" fx id') (hty : typeOf (.builtin id') = pure (.type "method_descriptor")) (hm : MtR X id' (R1m c (bm1 m))) (hb : ¬ (m = "index" ∨ m = "count")) (ho : PE X a (tE c W (ev R ia))) (ha : PE X b (tE c W (ev R ib))) (hpo : plainE a = true) (hpa : plainE b = true)
    (hline : (apos.endLine == cpos.line) = true) : PE X (.Call (.Attribute a fx apos) [b] [] cpos) (tE c W (ev R (.bm1 m ia ib))) :=
  (pe_m1 slot hty hm ho ha (star1 hpa) (plain_base hpo _ _ _) hline).weak fun σ H Q q => by
    obtain ⟨S, e, s, rfl, Rr, p⟩ := q
    refine ⟨S, e, s, rfl, Rr, PostG.bind Rr.toRlS p fun x1 e1 s1 S1 v1 q1 R1 st1 rp1 p1 => ?_⟩
    split at p1
    · rename_i hk
      unfold bmOk at hk
      rw [if_neg hb] at hk
      have hv : ∃ z, v1 = .str z := by
        have r := bw_view R1.toRlS rp1.1
        generalize (bw x1.1 x1.2 s1).1 = mm at r hk
        split at hk
        · exact ⟨_, r⟩
        · cases hk
      refine ⟨hv, ?_⟩
      obtain ⟨S1', pl', R1', hH, ham, rp1', hpl, hbw, _, st1'⟩ := pend R1 rp1.1
      replace p1 := PostG.shift R1.toRlS st1' p1
      refine ⟨S1', e1, s1, hH, R1', PostG.bind R1'.toRlS p1 fun x2 e2 s2 S2 v2 q2 R2 st2 rp2 p2 => ?_⟩
      unfold bm1K at p2
      split at p2
      · rename_i hs
        rw [← hbw] at hs p2
        obtain ⟨m3, hm3, p2⟩ := out_ok p2
        exact ⟨S2, s2, _, _, v2, m3, rfl, rfl, R2.toRlS, bw_keep R1'.toRlS rp1' hpl st2 hs, bw_view R2.toRlS rp2.1, hm3, fun S' v al rp => end_al R2 p2 al rp⟩
      · exact p2.elim
    · exact p1.elim
theorem m2_ok {m : Str} (hpo : plainE a = true) (hpb : plainE b = true) (hpd : plainE d = true) (hline : (apos.endLine == cpos.line) = true) : M2 X a m apos b d cpos :=
  ⟨plain_base hpo _ _ _, few2 hpb hpd, hline, by rw [star2 hpb hpd]; rfl⟩
/-- d.get(k, x) -/
theorem s_get (hu : X.A.units + 1 < cLine) (ho : PE X a (tE c W (ev R ia))) (hb : PE X b (tE c W (ev R ib))) (hd : PE X d (tE c W (ev R id))) (hpo : plainE a = true) (hpb : plainE b = true) (hpd : plainE d = true) (hline : (apos.endLine == cpos.line) = true) :
    PE X (.Call (.Attribute a "get" apos) [b, d] [] cpos) (tE c W (ev R (.bm2 "get" ia ib id))) :=
  (pe_dget2 hu ho hb hd (m2_ok hpo hpb hpd hline)).weak fun σ H Q q => by
    obtain ⟨S, e, s, rfl, Rr, p⟩ := q
    refine ⟨S, e, s, rfl, Rr, PostG.bind Rr.toRlS p fun x1 e1 s1 S1 v1 q1 R1 st1 rp1 p1 => ?_⟩
    split at p1
    · rename_i hk
      have hdk : ∃ (p : Addr) (kvs : List (OI.D × OI.D)) (vs : List V), v1 = .ref p ∧ S1.H p = some (dHO c p false (kvs.map (·.1)) vs) := by
        have r := bw_view R1.toRlS rp1.1
        generalize (bw x1.1 x1.2 s1).1 = mm at r hk
        unfold dkOk at hk
        split at hk
        · rename_i kvs hx
          obtain ⟨p, vs, e1, h1, _⟩ := dic_of hx r
          exact ⟨p, kvs, vs, e1, h1⟩
        · cases hk
      obtain ⟨pv, kvs0, vs0, rfl, hp⟩ := hdk
      refine ⟨pv, rfl, .inl ⟨_, .inl hp⟩, ?_⟩
      obtain ⟨S1', pl', R1', hH, ham, rp1', hpl, hbw, _, st1'⟩ := pend R1 rp1.1
      replace p1 := PostG.shift R1.toRlS st1' p1
      refine ⟨S1', e1, s1, hH, R1', PostG.bind R1'.toRlS p1 fun x2 e2 s2 S2 v2 q2 R2 st2 rp2 p2 => ?_⟩
      obtain ⟨S2', pl2', R2', hH2, ham2, rp2', hpl2, hbw2, _, st2'⟩ := pend R2 rp2.1
      replace p2 := PostG.shift R2.toRlS st2' p2
      refine ⟨S2', e2, s2, hH2, R2', PostG.bind R2'.toRlS p2 fun x3 e3 s3 S3 v3 q3 R3 st3 rp3 p3 => ?_⟩
      unfold bm2K at p3
      split at p3
      · rename_i hs
        rw [Bool.and_eq_true] at hs
        obtain ⟨hs1, hs2⟩ := hs
        rw [← hbw] at hs1 p3
        rw [← hbw2] at hs2 p3
        have r1 := bw_keep R1'.toRlS rp1' hpl ((st2.trans R1'.dom st2').trans R1'.dom st3) hs1
        have r2 := bw_keep R2'.toRlS rp2' hpl2 st3 hs2
        have r3 := bw_view R3.toRlS rp3.1
        obtain ⟨m3, hm3, p3⟩ := out_ok p3
        rw [← hbw] at hk
        generalize (bw x1.1 pl' s1).1 = m1 at r1 hm3 hk
        generalize (bw x2.1 pl2' s2).1 = m2 at r2 hm3
        generalize (bw x3.1 x3.2 s3).1 = mz at r3 hm3
        replace hm3 : getM m1 m2 mz = some m3 := hm3
        unfold getM at hm3
        split at hm3
        · rename_i kvs hx
          split at hm3
          · rename_i k dd
            clear hk
            split at hm3
            · rename_i hko
              cases hm3
              obtain ⟨p', vs, ev, h1, h2⟩ := dic_of hx r1
              cases ev
              have hko : k.flatKey = true := hko
              obtain ⟨g1, g2⟩ := kget hko h2
              refine ⟨_, .inl ⟨_, keyOf k, .inl h1, keyOf_V hko r2, rfl⟩, ?_⟩
              cases hg : dget kvs k with
              | none =>
                rw [hg] at p3
                rw [g2 hg]
                exact end_val R3 p3 r3
              | some d' =>
                rw [hg] at p3
                obtain ⟨v', hv', rd'⟩ := g1 d' hg
                rw [hv']
                exact end_val R3 p3 rd'
            · cases hm3
          · cases hm3
        · cases hm3
      · exact p3.elim
    · exact p1.elim
end
end OI

/-! OIu2: methods of own classes, new instances, fields stored, raises. -/
namespace OI
open PySem PySem.Spec PyProof.Rows L2

theorem meth_eval {o : Expr} {m : Str} {es : List Expr} {apos pos : Pos} {env : PySem.Env} (ho : plainE o = true) (hes : es.all plainE = true) (hl : es.length < 30) (hline : (apos.endLine == pos.line) = true) :
    eval (.Call (.Attribute o m apos) es [] pos) env = (do
      let ov ← eval o env
      standAt apos.atName
      let (f, first) ← holding [ov] (getMethod ov m (do return (← importBound o env).getD true))
      callWith pos f first (backTo pos (starEach es env)) (backToKw pos (keywordEach [] env))) := by
  have hall : ∀ es : List Expr, es.all plainE = true → ((backTo pos (starEach es env)).all (fun x => !x.1)) = true := by
    intro es
    induction es with
    | nil => exact fun _ => rfl
    | cons a r ih =>
      intro h
      rw [List.all_cons, Bool.and_eq_true] at h
      rw [plain_star h.1]
      have := ih h.2
      unfold backTo at this ⊢
      rw [List.map_cons, List.all_cons, this]
      rfl
  have hk : backToKw pos (keywordEach [] env) = [] := rfl
  have hf : methodCallForm (es.length + ([] : List Keyword).length) (backTo pos (starEach es env)) (backToKw pos (keywordEach [] env)) = true := by
    unfold methodCallForm
    rw [hall es hes, hk]
    simp
    omega
  rw [arm_eval_Call, plain_base ho]
  unfold methodCall
  rw [hf]
  have hp : methodCallPos true o env apos pos = pure pos := by
    unfold methodCallPos
    rw [hline]
    rfl
  rw [hp]
  rfl

section
variable {X : Cx} {c : Cn} {W : WX} {R : Runs}
/-- a method of a class of the text, as a body may call it -/
structure MtI (X : Cx) (c : Cn) (R : Runs) (j : Nat) (k m : String) (np : Nat) : Prop where
  cl : Cls X.K (c.icl k)
  some : ∃ fa fd ps, Meth X.K (c.icl k) (Str.ofString m) fa ∧ Binds X.K fd ps [] ∧ ps.length = np ∧ FnOk X.prog X.w X.K X.mg X.base (L2.CX X.prog X.w) j fa fd ps (spF c R (k ++ "." ++ m) np)
def tMethW (C : Addr) (m : Str) (sp : Sp) (E : L2.St → XK) (ta : TE) (t : TA) : TE := fun σ H Q => ta σ H fun x H1 => ∃ a dx fs, x = .ref a ∧ H1 a = some (.ins C dx fs) ∧ fs.lookup m = none ∧ t σ H1 fun vs H2 => sp (x :: vs) H2 Q (E σ)
section
variable {CX : CXT} {k : Nat} {f C : Addr} {fd : FuncData} {ps : List Str} {sp : Sp} {E : L2.St → XK} {x m : Str} {p pos apos : Pos} {e o : Expr} {es : List Expr} {ta : TE} {t : TA}
theorem pe_methW {pl : Sem Bool} (he : PE X o ta) (c : Cls X.K C) (hm : Meth X.K C m f) (F : FnOk X.prog X.w X.K X.mg X.base CX k f fd ps sp) (hr : Room k X.A) (hb : Binds X.K fd ps []) (hx : ∀ σ, PassesAt CX X σ (E σ)) (ha : PA X (e :: es) t)
    (hst : starEach (e :: es) X.env = (false, eval e X.env) :: starEach es X.env) (hpl : (backTo pos (starEach es X.env)).any (·.1) = false)
    (ht : eval (.Call (.Attribute o m apos) (e :: es) [] pos) X.env = (do
      let ov ← eval o X.env
      standAt apos.atName
      let (f, first) ← holding [ov] (getMethod ov m pl)
      callWith pos f first (backTo pos (starEach (e :: es) X.env)) (backToKw pos (keywordEach [] X.env)))) :
    PE X (.Call (.Attribute o m apos) (e :: es) [] pos) (tMethW C m sp E ta t) := by
  refine ⟨fun pins s σ H Q I h => ?_⟩
  refine PySem.W.methodCall_KW (pl := pl) (thn (he.run pins s σ H _ I h) fun u s1 ⟨x, H1, I1, rx, a, dx, fs, ex, ea, l, q⟩ => ?_) ht
  subst ex
  obtain rfl : u = Value.ref a := rx
  refine getmeth_ok I1 ea c hm l ?_
  refine PySem.W.callWith_K (first := [.ref a]) (h₀ := X.base) I.ok.mod.kin hm.kp (thn (ha.run pos pins s1 σ H1 _ I1 q) fun us s2 ⟨vs, H2, I2, r, q2⟩ => ⟨I2.kIn, ?_⟩) hst hpl
  exact run_fnS (us := .ref a :: us) (vs := .ref a :: vs) F hr hb (hx σ) I2 (.cons rfl r) q2
theorem pe_methW0 {pl : Sem Bool} (he : PE X o ta) (c : Cls X.K C) (hm : Meth X.K C m f) (F : FnOk X.prog X.w X.K X.mg X.base CX k f fd ps sp) (hr : Room k X.A) (hb : Binds X.K fd ps []) (hx : ∀ σ, PassesAt CX X σ (E σ))
    (ht : eval (.Call (.Attribute o m apos) [] [] pos) X.env = (do
      let ov ← eval o X.env
      standAt apos.atName
      let (f, first) ← holding [ov] (getMethod ov m pl)
      callWith pos f first (backTo pos (starEach [] X.env)) (backToKw pos (keywordEach [] X.env)))) :
    PE X (.Call (.Attribute o m apos) [] [] pos) (tMethW C m sp E ta tNil) := by
  refine ⟨fun pins s σ H Q I h => ?_⟩
  refine PySem.W.methodCall_KW (pl := pl) (thn (he.run pins s σ H _ I h) fun u s1 ⟨x, H1, I1, rx, a, dx, fs, ex, ea, l, q⟩ => ?_) ht
  subst ex
  obtain rfl : u = Value.ref a := rx
  refine getmeth_ok I1 ea c hm l ?_
  exact PySem.W.callWith_K0 (first := [.ref a]) I1.kIn hm.kp (run_fnS (us := [.ref a]) (vs := [.ref a]) F hr hb (hx σ) I1 (.cons rfl .nil) q)
/-- C(..) -/
def tMakeW (C : Addr) (sp : Sp) (E : L2.St → XK) (t : TA) : TE := fun σ H Q => t σ H fun vs H1 => ∀ x dx, H1 x = none → H1 dx = none → dx ≠ x →
  sp (.ref x :: vs) (L2.upd (L2.upd H1 dx (.own x)) x (.ins C dx [])) (fun v H2 => v = .non ∧ Q (.ref x) H2) (E σ)
theorem run_makeW {pins : List (Addr × Obj)} {σ : L2.St} {H : Hp} {s : Shared} {Q : VK} {us : List Value} {vs : List V} (M : Mk X.K C f) (F : FnOk X.prog X.w X.K X.mg X.base CX k f fd ps sp) (hr : Room (k + 1) X.A) (hb : Binds X.K fd ps [])
    (hx : PassesAt CX X σ (E σ)) (I : Inv X pins σ H s) (r : Vals vs us)
    (h : ∀ x dx, H x = none → H dx = none → dx ≠ x → sp (.ref x :: vs) (L2.upd (L2.upd H dx (.own x)) x (.ins C dx [])) (fun v H2 => v = .non ∧ Q (.ref x) H2) (E σ)) :
    wpAny (model X.prog X.w) X.A (call (.ref C) us) (EP X pins σ Q) X.xe s := by
  have hq := h (s.heap.objs.size + 1) s.heap.objs.size (I.hok.fresh (Nat.le_succ _)) (I.hok.fresh (Nat.le_refl _)) (Nat.ne_of_lt (Nat.lt_succ_self _))
  have I2 := Inv.made (C := C) I
  have r2 : Vals (V.ref (s.heap.objs.size + 1) :: vs) (Value.ref (s.heap.objs.size + 1) :: us) := .cons rfl r
  have hl : ((Value.ref (s.heap.objs.size + 1) :: us) ++ []).length = ps.length := by
    have e := r2.length
    rw [F.len _ _ _ _ hq] at e
    rw [List.append_nil]
    exact e.symm
  have b := hb _ (Value.ref (s.heap.objs.size + 1) :: us) I2.kIn hl
  rw [List.append_nil] at b
  refine wpAny_call (make_map (f := f) I.kIn M.makes M.init (beq_iff_eq.mp M.fn) (codeAny_mono (F.run _ X.stack _ _ ⟨Value.ref (s.heap.objs.size + 1) :: us, []⟩ (Value.ref (s.heap.objs.size + 1) :: us) _ _ (E σ) (hr.make C us [])
    (I2.env0.make C us []) b r2 hq) fun r s' hq' => ?_))
  cases r with
  | error e => exact hx pins _ _ e s' I2 hq'
  | ok fl =>
    cases fl with
    | ret u =>
      obtain ⟨v, H', I3, rv, ev, q3⟩ := I2.after hq'
      subst ev
      exact ⟨rv, ⟨V.ref (s.heap.objs.size + 1), H', I3, rfl, q3⟩⟩
    | next => exact False.elim hq'
    | brk => exact False.elim hq'
    | cont => exact False.elim hq'
theorem pe_makeW (M : Mk X.K C f) (F : FnOk X.prog X.w X.K X.mg X.base CX k f fd ps sp) (hr : Room (k + 1) X.A) (hg : Gl X x) (hm : X.mg x = some (.ref C)) (hb : Binds X.K fd ps []) (hx : ∀ σ, PassesAt CX X σ (E σ))
    (ha : PA X (e :: es) t) (hdb : (x == ("__debug__" : Str)) = false) (he : starEach (e :: es) X.env = (false, eval e X.env) :: starEach es X.env) (hpl : (backTo pos (starEach es X.env)).any (·.1) = false) :
    PE X (.Call (.Name x p) (e :: es) [] pos) (tMakeW C sp E t) := by
  refine ⟨fun pins s σ H Q I h => ?_⟩
  refine wpAny_Call_Name_kw (ld_glob I hg hm ?_ hdb)
  refine PySem.W.callWith_K (h₀ := X.base) I.ok.mod.kin M.kp (thn (ha.run pos pins s σ H _ I h) fun us s1 ⟨vs, H1, I1, r, q⟩ => ⟨I1.kIn, ?_⟩) he hpl
  exact run_makeW M F hr hb (hx σ) I1 r q
theorem pe_makeW0 (M : Mk X.K C f) (F : FnOk X.prog X.w X.K X.mg X.base CX k f fd ps sp) (hr : Room (k + 1) X.A) (hg : Gl X x) (hm : X.mg x = some (.ref C)) (hb : Binds X.K fd ps []) (hx : ∀ σ, PassesAt CX X σ (E σ))
    (hdb : (x == ("__debug__" : Str)) = false) : PE X (.Call (.Name x p) [] [] pos) (tMakeW C sp E tNil) := by
  refine ⟨fun pins s σ H Q I h => ?_⟩
  refine wpAny_Call_Name_kw (ld_glob I hg hm ?_ hdb)
  exact PySem.W.callWith_K0 I.kIn M.kp (run_makeW (us := []) M F hr hb (hx σ) I .nil h)
end

theorem RepF.names {S : Wd} {n : Nat} {f : String} : ∀ {fs : List (String × M)} {gs : List (Str × V)}, RepF c S n fs gs → fldGet fs f = none → gs.lookup (Str.ofString f) = none
  | [], _, h, _ => by rw [show _ = [] from h]; rfl
  | (g, m') :: r, _, ⟨v, q, e, h1, h2⟩, h => by
    subst e
    by_cases z : g = f
    · subst z
      have : fldGet ((g, m') :: r) g = some m' := by simp [fldGet]
      rw [this] at h
      cases h
    · have e1 : fldGet ((g, m') :: r) f = fldGet r f := by simp [fldGet, z]
      rw [e1] at h
      have hne : (Str.ofString f == Str.ofString g) = false := beq_eq_false_iff_ne.mpr fun w => z (ofString_inj w).symm
      rw [List.lookup_cons, hne]
      exact RepF.names h2 h
/-- o.m(..) -/
theorem meth_q {k m : String} {np : Nat} {ia : IE} {ias : IEs} {σ : L2.St} {H : Hp} {Q : VK} (hn : ias.len + 1 = np) (q : tE c W (ev R (.meth ia k m ias)) σ H Q) : tMethW (c.icl k) (Str.ofString m) (spF c R (k ++ "." ++ m) np) (WE W) (tE c W (ev R ia)) (tA c W (evs R ias)) σ H Q := by
  obtain ⟨S, e, s, rfl, Rr, p⟩ := q
  refine ⟨S, e, s, rfl, Rr, PostG.bind Rr.toRlS p fun x e1 s1 S1 v q1 R1 st1 rp1 p1 => ?_⟩
  unfold methK at p1
  split at p1
  · rename_i n hx
    split at p1
    · rename_i k' fs w he
      split at p1
      · rename_i hk
        obtain ⟨rfl, hf⟩ := hk
        have r := rp1.1
        rw [hx] at r
        obtain ⟨ad, rfl, ha⟩ := r
        obtain ⟨ho, dx, gs, h1, h2, h3⟩ := Rl.locs R1.toRlS ha he
        refine ⟨ad, dx, gs, rfl, h1, RepF.names h2 hf, ?_⟩
        refine ⟨S1, e1, s1, rfl, R1, PostG.bind R1.toRlS p1 fun ds e2 s2 S2 vs q2 R2 st2 rp2 p2 => ?_⟩
        have := call_of R2 (ds := .loc n :: ds) (vs := .ref ad :: vs) ⟨.ref ad, vs, rfl, ⟨ad, rfl, st2.toFr.amAt ha⟩, rp2⟩ p2
        rw [List.length_cons, evs_len q2, hn] at this
        exact this
      · exact p1.elim
    · exact p1.elim
  · exact p1.elim
theorem s_nil2 {σ : L2.St} {H : Hp} {Q : List V → Hp → Prop} (q : tA c W (evs R .nil) σ H Q) : tNil σ H Q := by
  obtain ⟨S, e, s, rfl, Rr, p⟩ := q
  exact p S [] Rr (StE.refl S s) rfl
theorem s_meth {k m : String} {np j : Nat} {o : Expr} {as : List Expr} {ia : IE} {ias : IEs} {apos pos : Pos} (F : MtI X c R j k m np) (hr : Room j X.A) (tk : Takes X W) (hn : ias.len + 1 = np) (hpo : plainE o = true) (hp : as.all plainE = true) (hl : as.length < 30) (hline : (apos.endLine == pos.line) = true)
    (ho : PE X o (tE c W (ev R ia))) (ha : PA X as (tA c W (evs R ias))) (h0 : as = [] → ias = .nil) : PE X (.Call (.Attribute o (Str.ofString m) apos) as [] pos) (tE c W (ev R (.meth ia k m ias))) := by
  obtain ⟨fa, fd, ps, h1, h3, h4, h5⟩ := F.some
  cases as with
  | nil =>
    have e := h0 rfl
    subst e
    refine (pe_methW0 ho F.cl h1 h5 hr h3 (fun σ => passAt tk σ) (meth_eval hpo hp hl hline)).weak fun σ H Q q => ?_
    obtain ⟨S, e, s, hS, Rr, p⟩ := meth_q hn q
    refine ⟨S, e, s, hS, Rr, p.mono fun y H1 hy => ?_⟩
    obtain ⟨a, dx, fs, e1, e2, e3, e4⟩ := hy
    exact ⟨a, dx, fs, e1, e2, e3, s_nil2 e4⟩
  | cons a as =>
    have hp' := hp
    rw [List.all_cons, Bool.and_eq_true] at hp'
    exact (pe_methW ho F.cl h1 h5 hr h3 (fun σ => passAt tk σ) ha (plain_star hp'.1 as X.env) (any_plain hp'.2) (meth_eval hpo hp hl hline)).weak fun σ H Q q => meth_q hn q

/-! ### a new instance -/
theorem HLo.ins {C dx : Addr} {fs : List (Str × V)} : HLo (.ins C dx fs) := ⟨fun _ e => (by cases e), fun _ e => (by cases e), fun _ e => (by cases e), fun _ _ e => (by cases e)⟩
theorem HLo.own {x : Addr} : HLo (.own x) := ⟨fun _ e => (by cases e), fun _ e => (by cases e), fun _ e => (by cases e), fun _ _ e => (by cases e)⟩
theorem made {S : Wd} {s : Store} {e : OI.Env} {σ : L2.St} {x dx : Addr} {k : String} (R : Rl c S e s σ) (hx : S.H x = none) (hd : S.H dx = none) (hne : dx ≠ x) :
    ∃ S', S'.H = L2.upd (L2.upd S.H dx (.own x)) x (.ins (c.icl k) dx []) ∧ S'.am[s.length]? = some x ∧ Rl c S' e (s ++ [⟨.ins k [], 0⟩]) σ ∧ StE S S' s (s ++ [⟨.ins k [], 0⟩]) := by
  have al1 := Al.lay R.toRlS (p := dx) (o := .own x) (q := none) hd (.inl rfl) HLo.own
  have R1 := al1.rl R
  have hx1 : (S.put dx (.own x) none).H x = none := (upd_ne (Ne.symm hne)).trans hx
  have al2 := Al.lay R1.toRlS (p := x) (o := .ins (c.icl k) dx []) (q := some .tmp) hx1 (.inr rfl) HLo.ins
  have R2 := al2.rl R1
  obtain ⟨S', hH, ha, R3, st3⟩ := grow (o := .ins k []) R2 put_ow fun S' hH f => ⟨dx, [], by rw [hH]; exact put_H, rfl, List.nodup_nil⟩
  exact ⟨S', hH, ha, R3, ((al1.ste R.dom s).trans R.dom (al2.ste R1.dom s)).trans R.dom st3⟩
structure NwI (X : Cx) (c : Cn) (R : Runs) (j : Nat) (k : String) (np : Nat) : Prop where
  mg : X.mg (Str.ofString k) = some (.ref (c.icl k))
  some : ∃ fa fd ps, Mk X.K (c.icl k) fa ∧ Binds X.K fd ps [] ∧ ps.length = np ∧ FnOk X.prog X.w X.K X.mg X.base (L2.CX X.prog X.w) j fa fd ps (spF c R (k ++ ".__init__") np)
theorem new_q {k : String} {np : Nat} {ias : IEs} {σ : L2.St} {H : Hp} {Q : VK} (hn : ias.len + 1 = np) (q : tE c W (ev R (.new k ias)) σ H Q) : tMakeW (c.icl k) (spF c R (k ++ ".__init__") np) (WE W) (tA c W (evs R ias)) σ H Q :=
  args_ok (k := newK R k) (rep := rM c) q fun S e s ds vs Rr r hl p x dx hx hd hne => by
    obtain ⟨S2, hH, ha, R2, st2⟩ := made (k := k) Rr hx hd hne
    rw [← hH]
    have p2 : PostG c W σ S2 (s ++ [⟨.ins k [], 0⟩]) (callK R (k ++ ".__init__") (.loc s.length :: ds) e (s ++ [⟨.ins k [], 0⟩])) (rM c σ) (fun v H2 => v = .non ∧ Q (.ref x) H2) := by
      unfold newK at p
      unfold callK
      cases hr : R (k ++ ".__init__") (.loc s.length :: ds) (s ++ [⟨.ins k [], 0⟩]) with
      | ok m s' =>
        rw [hr] at p
        have p : PostG c W σ S s (newE s.length m e s') (rM c σ) Q := p
        unfold newE at p
        split at p
        · intro S' y R' st' rp
          have p : PostG c W σ S s (.ok (.val (.loc s.length), .tmp) e s') (rM c σ) Q := p
          exact ⟨rp.1, p S' (.ref x) R' (st2.trans Rr.dom st') ⟨⟨x, rfl, st'.toFr.amAt ha⟩, trivial⟩⟩
        · exact p.elim
      | err k' s' =>
        rw [hr] at p
        exact fun S' R' st' => p S' R' (st2.trans Rr.dom st')
      | bad => rw [hr] at p; exact p
    have := call_of R2 (ds := .loc s.length :: ds) (vs := .ref x :: vs) ⟨.ref x, vs, rfl, ⟨x, rfl, ha⟩, r.mono st2.toFr⟩ p2
    rw [List.length_cons, hl, hn] at this
    exact this
theorem s_new {k : String} {np j : Nat} {as : List Expr} {ias : IEs} {np' pos : Pos} (F : NwI X c R j k np) (hr : Room (j + 1) X.A) (hg : Gl X (Str.ofString k)) (tk : Takes X W) (hn : ias.len + 1 = np) (hdb : (Str.ofString k == ("__debug__" : Str)) = false) (hp : as.all plainE = true)
    (ha : PA X as (tA c W (evs R ias))) (h0 : as = [] → ias = .nil) : PE X (.Call (.Name (Str.ofString k) np') as [] pos) (tE c W (ev R (.new k ias))) := by
  obtain ⟨fa, fd, ps, h1, h3, h4, h5⟩ := F.some
  cases as with
  | nil =>
    have e := h0 rfl
    subst e
    exact (pe_makeW0 h1 h5 hr hg F.mg h3 (fun σ => passAt tk σ) hdb).weak fun σ H Q q => s_nil2 (new_q hn q)
  | cons a as =>
    have hp' := hp
    rw [List.all_cons, Bool.and_eq_true] at hp'
    exact (pe_makeW h1 h5 hr hg F.mg h3 (fun σ => passAt tk σ) ha hdb (plain_star hp'.1 as X.env) (any_plain hp'.2)).weak fun σ H Q q => new_q hn q
end
end OI

/-! OIu3: fields stored, displays of dicts, list(range(..)), zip, range downwards. -/
namespace OI
open PySem PySem.Spec PyProof.Rows L2
section
variable {c : Cn} {W : WX} {σ : L2.St} {S S1 : Wd} {s s1 : Store} {e e1 : OI.Env}
/-- a container that nobody has yet waits; later it is that again -/
theorem pendT {m : M} {v : V} (R1 : Rl c S1 e1 s1 σ) (rp : RepM c S1 .tmp m v) : ∃ S1', Rl c S1' e1 s1 σ ∧ S1'.H = S1.H ∧ StE S1 S1' s1 s1 ∧
    ∀ S2 e2 s2, Rl c S2 e2 s2 σ → StE S1' S2 s1 s2 → ∃ S2t, S2t.H = S2.H ∧ S2t.am = S2.am ∧ Fr S2 S2t ∧ Rl c S2t e2 s2 σ ∧ StE S1 S2t s1 s2 ∧ RepM c S2t .tmp m v := by
  have main : ∀ p, S1.ow p = some .tmp → (∀ S2 : Wd, S2.H p = S1.H p → Fr S1 S2 → S2.ow p = some .tmp → RepM c S2 .tmp m v) → ∃ S1', Rl c S1' e1 s1 σ ∧ S1'.H = S1.H ∧ StE S1 S1' s1 s1 ∧
      ∀ S2 e2 s2, Rl c S2 e2 s2 σ → StE S1' S2 s1 s2 → ∃ S2t, S2t.H = S2.H ∧ S2t.am = S2.am ∧ Fr S2 S2t ∧ Rl c S2t e2 s2 σ ∧ StE S1 S2t s1 s2 ∧ RepM c S2t .tmp m v := fun p hp hm => by
    refine ⟨S1.lab p (some .oth), lab_tmp R1 hp, rfl, lab_ste hp, fun S2 e2 s2 R2 st => ?_⟩
    obtain ⟨hH, ho⟩ := st.oth p lab_same
    have ne : ∀ {a : Addr} {x : Pl}, S2.ow a = some x → x ≠ .oth → a ≠ p := fun h1 h2 z => by subst z; rw [ho] at h1; cases h1; exact h2 rfl
    have ne1 : ∀ {a : Addr} {x : Option Pl}, S1.ow a = x → x ≠ some .tmp → a ≠ p := fun h1 h2 z => by subst z; rw [hp] at h1; exact h2 h1.symm
    have R2t : Rl c (S2.lab p (some .tmp)) e2 s2 σ := R2.step (lab_fr (by rw [ho]; simp)) (fun a x n hx hn => ⟨rfl, by rw [lab_ne (ne hx (fun z => by subst z; cases hn))]; exact hx⟩) (fun a i hx => ⟨rfl, by rw [lab_ne (ne hx (by simp))]; exact hx⟩) rfl
      (lab_dom R2.dom (by rw [ho]; simp)) (lab_src R2.src (by intro x hx; cases hx; rfl)) R2.hl
    have fr : Fr S1 (S2.lab p (some .tmp)) := ⟨fun a o h1 h2 => by
      have n := ne1 h2 (by simp)
      obtain ⟨x, y⟩ := st.keep a o h1 ((lab_ne n).trans h2)
      exact ⟨x, (lab_ne n).trans y⟩, st.am⟩
    refine ⟨S2.lab p (some .tmp), rfl, rfl, lab_fr (by rw [ho]; simp), R2t, ⟨⟨fr, st.ver, fun n en h1 h2 a q hq hn => ?_, fun a hq => ?_⟩, fun a i hq => ?_⟩, hm _ hH fr lab_same⟩
    · have nn := ne1 hq (by intro z; cases z; cases hn)
      obtain ⟨x, y⟩ := st.ent n en h1 h2 a q ((lab_ne nn).trans hq) hn
      exact ⟨x, (lab_ne nn).trans y⟩
    · have nn := ne1 hq (by simp)
      obtain ⟨x, y⟩ := st.oth a ((lab_ne nn).trans hq)
      exact ⟨x, (lab_ne nn).trans y⟩
    · have nn := ne1 hq (by simp)
      obtain ⟨x, y⟩ := st.slot a i ((lab_ne nn).trans hq)
      exact ⟨x, y.imp (fun h => (lab_ne nn).trans h) (fun h => (lab_ne nn).trans h)⟩
  cases m with
  | val d => exact ⟨S1, R1, rfl, StE.refl _ _, fun S2 e2 s2 R2 st => ⟨S2, rfl, rfl, Fr.refl S2, R2, st, RepD.mono st.toFr rp⟩⟩
  | ol xs =>
    obtain ⟨p, vs, ev, h1, h2, h3⟩ := rp
    exact main p h2 fun S2 hH f ho => ⟨p, vs, ev, by rw [hH]; exact h1, ho, h3.mono f⟩
  | od t kvs =>
    obtain ⟨p, vs, ev, h1, h2, h3⟩ := rp
    exact main p h2 fun S2 hH f ho => ⟨p, vs, ev, by rw [hH]; exact h1, ho, h3.mono f⟩
/-- the content of what nobody has is exchanged -/
theorem tmp_upd {p : Addr} {o : HO} (R : Rl c S e s σ) (hp : S.ow p = some .tmp) (ho : HLo o) : Rl c (S.upd p o) e s σ ∧ StE S (S.upd p o) s s := by
  have hH : ∀ {b : Addr}, b ≠ p → (S.upd p o).H b = S.H b := fun hb => upd_ne hb
  have ne : ∀ {a : Addr} {x : Pl}, S.ow a = some x → x ≠ .tmp → a ≠ p := fun h1 h2 z => by subst z; rw [hp] at h1; cases h1; exact h2 rfl
  have fr : Fr S (S.upd p o) := ⟨fun b u h1 h2 => ⟨(hH (fun z => by subst z; rw [hp] at h2; cases h2)).trans h1, h2⟩, [], by simp [Wd.upd]⟩
  refine ⟨R.step fr (fun a x n hx hn => ⟨hH (ne hx (fun z => by subst z; cases hn)), hx⟩) (fun a i hx => ⟨hH (ne hx (by simp)), hx⟩) rfl (fun b hb => ?_) R.src (R.hl.put ho), ⟨⟨fr, VerS.refl s, fun n en _ _ a x hx hn => ⟨hH (ne hx (fun z => by subst z; cases hn)), hx⟩, fun a hx => ⟨hH (ne hx (by simp)), hx⟩⟩, fun a i hx => ⟨hH (ne hx (by simp)), .inl hx⟩⟩⟩
  by_cases z : b = p
  · subst z
    show L2.upd S.H b o b ≠ none
    rw [upd_same]; simp
  · show L2.upd S.H p o b ≠ none
    rw [upd_ne z]
    exact R.dom b hb

/-! ### a field stored -/
theorem fldPut_mem {f : String} {m : M} : ∀ {fs : List (String × M)} {g : String}, g ∈ (fldPut fs f m).map (·.1) → g = f ∨ g ∈ fs.map (·.1)
  | [], g, h => .inl (by simpa [fldPut] using h)
  | (a, b) :: r, g, h => by
    unfold fldPut at h
    split at h
    · exact .inr (by simpa using h)
    · rw [List.map_cons, List.mem_cons] at h
      rcases h with h | h
      · exact .inr (by rw [h]; exact List.mem_cons_self ..)
      · exact (fldPut_mem h).imp id fun h => List.mem_cons_of_mem _ h
theorem fldPut_nodup {f : String} {m : M} : ∀ {fs : List (String × M)}, (fs.map (·.1)).Nodup → ((fldPut fs f m).map (·.1)).Nodup
  | [], _ => by simp [fldPut]
  | (a, b) :: r, h => by
    rw [List.map_cons, List.nodup_cons] at h
    unfold fldPut
    split
    · rw [List.map_cons, List.nodup_cons]
      exact h
    · rename_i hne
      rw [List.map_cons, List.nodup_cons]
      refine ⟨fun hm => ?_, fldPut_nodup h.2⟩
      rcases fldPut_mem hm with z | z
      · exact hne (by simpa using z)
      · exact h.1 z
theorem fldPut_length {f : String} {m : M} : ∀ {fs : List (String × M)}, (fldPut fs f m).length ≤ fs.length + 1
  | [] => by simp [fldPut]
  | (a, b) :: r => by
    unfold fldPut
    split
    · simp
    · have := @fldPut_length f m r
      simp
      omega
theorem RepF.length {n : Nat} : ∀ {fs : List (String × M)} {gs : List (Str × V)}, RepF c S n fs gs → gs.length = fs.length
  | [], _, h => by rw [show _ = [] from h]; rfl
  | (f, m) :: r, _, ⟨v, q, e, _, h⟩ => by rw [e, List.length_cons, List.length_cons, RepF.length h]
theorem RepF.putN {S' : Wd} {n : Nat} {f : String} {m : M} {v : V} (fr : Fr S S') (k : ∀ b g, S.ow b = some (.fld n g) → S'.H b = S.H b ∧ S'.ow b = some (.fld n g)) (hm : RepM c S' (.fld n f) m v) : ∀ {fs : List (String × M)} {gs : List (Str × V)}, RepF c S n fs gs →
    RepF c S' n (fldPut fs f m) (putF (Str.ofString f) v gs)
  | [], gs, h => by
    rw [show gs = [] from h]
    exact ⟨v, [], rfl, hm, rfl⟩
  | (g, m') :: r, gs, ⟨w, q, e, h1, h2⟩ => by
    subst e
    unfold fldPut putF
    by_cases z : g = f
    · subst z
      rw [if_pos (by simp), if_pos rfl]
      exact ⟨v, q, rfl, hm, h2.step fr k⟩
    · rw [if_neg (by simpa using z), if_neg (fun w => z (ofString_inj w))]
      exact ⟨w, _, rfl, h1.step fr (fun b hb => k b g hb), RepF.putN fr k hm h2⟩
theorem fld_store {n w : Nat} {k f : String} {fs : List (String × M)} {a : Addr} {m : M} {v : V} (R : Rl c S e s σ) (hs : s[n]? = some ⟨.ins k fs, w⟩) (ha : S.am[n]? = some a) (rp : RepM c S .tmp m v) :
    ∃ dx gs, S.H a = some (.ins (c.icl k) dx gs) ∧ gs.length = fs.length ∧ ∃ S', S'.H = L2.upd S.H a (.ins (c.icl k) dx (putF (Str.ofString f) v gs)) ∧ Rl c S' e (s.set n ⟨.ins k (fldPut fs f m), w + 1⟩) σ ∧ StS [] S S' s (s.set n ⟨.ins k (fldPut fs f m), w + 1⟩) := by
  obtain ⟨ho, dx, gs, h1, h2, h3⟩ := Rl.locs R.toRlS ha hs
  refine ⟨dx, gs, h1, h2.length, ?_⟩
  have hlt := (List.getElem?_eq_some_iff.mp hs).1
  -- the new world
  have main : ∀ S' : Wd, S'.am = S.am → S'.H = L2.upd S.H a (.ins (c.icl k) dx (putF (Str.ofString f) v gs)) → (∀ b, S'.ow b = S.ow b ∨ (S.ow b = some .tmp ∧ S'.ow b = some (.fld n f))) → (Fr S S' → RepM c S' (.fld n f) m v) →
      ∃ S', S'.H = L2.upd S.H a (.ins (c.icl k) dx (putF (Str.ofString f) v gs)) ∧ Rl c S' e (s.set n ⟨.ins k (fldPut fs f m), w + 1⟩) σ ∧ StS [] S S' s (s.set n ⟨.ins k (fldPut fs f m), w + 1⟩) := fun S' ham hSH how hrep => by
    have hH : ∀ {b : Addr}, b ≠ a → S'.H b = S.H b := fun hb => by rw [hSH]; exact upd_ne hb
    have ne : ∀ {b : Addr} {q : Option Pl}, S.ow b = q → q ≠ some (.obj n) → b ≠ a := fun g1 g2 z => g2 (by rw [← g1, z]; exact ho)
    have ow : ∀ {b : Addr} {q : Option Pl}, S.ow b = q → q ≠ some .tmp → S'.ow b = q := fun {b q} h1 h2 => by
      rcases how b with e | ⟨e, _⟩
      · rw [e, h1]
      · exact absurd (h1.symm.trans e) h2
    have hla : S'.ow a = some (.obj n) := ow ho (by simp)
    have fr : Fr S S' := ⟨fun b u h1 h2 => ⟨(hH (ne h2 (by simp))).trans h1, ow h2 (by simp)⟩, [], by rw [ham, List.append_nil]⟩
    have hrep := hrep fr
    have hl : HL S'.H := by rw [hSH]; exact R.hl.put HLo.ins
    have dom : ∀ b, S'.ow b ≠ none → S'.H b ≠ none := fun b hb => by
      by_cases z : b = a
      · subst z; rw [hSH, upd_same]; simp
      · rw [hH z]
        refine R.dom b fun z2 => hb (ow z2 (by simp))
    refine ⟨S', hSH, ⟨⟨by rw [List.length_set, ham]; exact R.len, fun j en hj => ?_, dom, fun b q j h1 h2 => ?_, hl⟩, R.elen, fun i m2 hi => ?_⟩, ⟨⟨fr, fun j en hj => ?_, fun j en hj1 hj2 b q hb hq => ?_, fun b hb => ⟨hH (ne hb (by simp)), ow hb (by simp)⟩⟩, fun b i _ hb => ⟨hH (ne hb (by simp)), .inl (ow hb (by simp))⟩⟩⟩
    · by_cases z : n = j
      · subst z
        rw [List.getElem?_set_self hlt] at hj
        cases hj
        exact ⟨a, by rw [ham]; exact ha, hla, dx, _, by rw [hSH, upd_same], h2.putN fr (fun b g hb => ⟨hH (ne hb (by simp)), ow hb (by simp)⟩) hrep, fldPut_nodup h3⟩
      · rw [List.getElem?_set_ne z] at hj
        obtain ⟨b, g1, g2, g3⟩ := R.obj j en hj
        exact ⟨b, by rw [ham]; exact g1, ow g2 (by simp), g3.step fr (hH (ne g2 (by intro w; cases w; exact z rfl))) fun b' g hb' => ⟨hH (ne hb' (by simp)), ow hb' (by simp)⟩⟩
    · rw [List.length_set]
      rcases how b with e | ⟨_, e⟩
      · rw [e] at h1; exact R.src b q j h1 h2
      · rw [e] at h1
        cases h1
        cases h2
        exact hlt
    · obtain ⟨v2, g1, g2⟩ := R.slot i m2 hi
      exact ⟨v2, g1, g2.step fr fun b hb => ⟨hH (ne hb (by simp)), ow hb (by simp)⟩⟩
    · by_cases z : n = j
      · subst z
        rw [hs] at hj
        cases hj
        exact ⟨_, List.getElem?_set_self hlt, Nat.le_succ _, fun e => absurd e (Nat.ne_of_lt (Nat.lt_succ_self w))⟩
      · exact ⟨en, by rw [List.getElem?_set_ne z]; exact hj, Nat.le_refl _, fun _ => rfl⟩
    · by_cases z : n = j
      · subst z
        rw [hs] at hj1
        cases hj1
        rw [List.getElem?_set_self hlt] at hj2
        exact absurd (congrArg Ent.v (Option.some.inj hj2)) (Nat.ne_of_gt (Nat.lt_succ_self w))
      · exact ⟨hH (ne hb (by intro w; cases w; cases hq; exact z rfl)), ow hb (by intro w; cases w; cases hq)⟩
  have own : ∀ p, S.ow p = some .tmp → (∀ S', S'.H p = S.H p → S'.ow p = some (.fld n f) → Fr S S' → RepM c S' (.fld n f) m v) → ∃ S', S'.H = L2.upd S.H a (.ins (c.icl k) dx (putF (Str.ofString f) v gs)) ∧ Rl c S' e (s.set n ⟨.ins k (fldPut fs f m), w + 1⟩) σ ∧ StS [] S S' s (s.set n ⟨.ins k (fldPut fs f m), w + 1⟩) := fun p hp hm => by
    have hpa : p ≠ a := fun z => by subst z; rw [ho] at hp; cases hp
    refine main ⟨S.am, fun b => if b = p then some (.fld n f) else S.ow b, L2.upd S.H a (.ins (c.icl k) dx (putF (Str.ofString f) v gs))⟩ rfl rfl (fun b => ?_) fun fr => hm _ (upd_ne hpa) (if_pos rfl) fr
    by_cases z : b = p
    · subst z; exact .inr ⟨hp, if_pos rfl⟩
    · exact .inl (if_neg z)
  cases m with
  | val d => exact main (S.upd a (.ins (c.icl k) dx (putF (Str.ofString f) v gs))) rfl rfl (fun b => .inl rfl) fun fr => RepD.mono fr rp
  | ol xs =>
    obtain ⟨p, vs, ev, g1, g2, g3⟩ := rp
    exact own p g2 fun S' hH ho f => ⟨p, vs, ev, by rw [hH]; exact g1, ho, g3.mono f⟩
  | od t kvs =>
    obtain ⟨p, vs, ev, g1, g2, g3⟩ := rp
    exact own p g2 fun S' hH ho f => ⟨p, vs, ev, by rw [hH]; exact g1, ho, g3.mono f⟩
end
section
variable {X : Cx} {c : Cn} {W : WX} {ws : List Nat} {R : Runs} {n : Nat} {pos pos' : Pos}
/-- o.f = a -/
theorem s_setA {f : String} {o a : Expr} {io ia : IE} (hC : ∀ k, Cls X.K (c.icl k)) (hA : ∀ k, NoAttr X.K (c.icl k) (Str.ofString f)) (hs : swapsWith a (some (.Attribute o (Str.ofString f) pos')) pos.line X.env = pure false) (ho : PE X o (tE c W (ev R io))) (ha : PE X a (tE c W (ev R ia))) :
    PS X (.Assign [.Attribute o (Str.ofString f) pos'] a pos) (tS c W ws (exec R n (.setA io f ia))) :=
  (ps_fld ho ha hs).weak fun D σ H q => by
    obtain ⟨S, e, s, rfl, Rr, p⟩ := q
    refine valM_full Rr p fun S1 e1 s1 m v R1 st1 rp p1 => ?_
    obtain ⟨S1', R1', hH1, st1', back⟩ := pendT R1 rp
    refine ⟨S1', e1, s1, hH1, R1', ?_⟩
    have p1' : PostS c W ws S1' s1 ((ev R io e1 s1).bind fun x e2 s2 => match x.1 with
      | .val (.loc n) => match s2[n]? with
        | some ⟨.ins c fs, v⟩ => if fs.length < 900 then .ok .nx (keep m e e2 s s2) (s2.set n ⟨.ins c (fldPut fs f m), v + 1⟩) else .bad
        | _ => .bad
      | _ => .bad) D := PostS.shift Rr.toRlS ((st1.trans Rr.dom st1').sts ws) p1
    refine PostS.bindE R1'.toRlS p1' fun x e2 s2 S2 y q1 R2 st2 rp2 _ => ?_
    rw [q1] at p1
    have p1 : PostS c W ws S s (match x.1 with
      | .val (.loc n) => match s2[n]? with
        | some ⟨.ins c fs, v⟩ => if fs.length < 900 then .ok .nx (keep m e e2 s s2) (s2.set n ⟨.ins c (fldPut fs f m), v + 1⟩) else .bad
        | _ => .bad
      | _ => .bad) D := p1
    split at p1
    · rename_i j hx
      split at p1
      · rename_i k fs w he
        split at p1
        · rename_i hl
          have r := rp2.1
          rw [hx] at r
          obtain ⟨ad, rfl, ham⟩ := r
          obtain ⟨S2t, hH, hAm, _, R2t, st2t, rp2t⟩ := back S2 e2 s2 R2 st2
          have stt := st1.trans Rr.dom st2t
          -- nothing was changed, and it is flat: the slots' own are back
          have fin : ∀ S3 e3, Rl c S3 e3 s2 σ → StE S S3 s s2 → S3.H = S2.H → S3.am[j]? = some ad → RepM c S3 .tmp m v → PostS c W ws S s (.ok .nx e3 (s2.set j ⟨.ins k (fldPut fs f m), w + 1⟩)) D →
              ∃ (a : Addr) (C dx : Addr) (fs : List (Str × V)), V.ref ad = V.ref a ∧ S2.H a = some (.ins C dx fs) ∧ Cls X.K C ∧ NoAttr X.K C (Str.ofString f) ∧ fs.length < 1000 ∧ D.nx σ (L2.upd S2.H a (.ins C dx (putF (Str.ofString f) v fs))) := fun S3 e3 R3 st3 hH3 ha3 rp3 p3 => by
            obtain ⟨dx, gs, g1, g2, S4, g3, R4, st4⟩ := fld_store (f := f) R3 he ha3 rp3
            rw [hH3] at g1 g3
            refine ⟨ad, c.icl k, dx, gs, rfl, g1, hC k, hA k, by omega, ?_⟩
            rw [← g3]
            exact p3 S4 σ R4 ((st3.sts ws).trans Rr.dom (st4.mono fun i hi => (nomatch hi)))
          unfold keep at p1
          by_cases hk : m.flat = true ∧ s2 = s
          · rw [if_pos hk] at p1
            obtain ⟨hf, rfl⟩ := hk
            obtain ⟨R3, st3⟩ := restore Rr R2t stt
            exact fin _ e R3 st3 hH (by show S2t.am[j]? = _; rw [hAm]; exact ham) (flat_rep hf rp2t) p1
          · rw [if_neg hk] at p1
            exact fin S2t e2 R2t stt hH (by rw [hAm]; exact ham) rp2t p1
        · exact p1.elim
      · exact p1.elim
    · exact p1.elim
end

/-! ### displays of dicts -/
section
variable {X : Cx} {c : Cn} {W : WX} {R : Runs}
def ptr (c : Cn) (W : WX) (R : Runs) : IPs → List (TE × TE)
  | .nil => []
  | .cons k v r => (tE c W (ev R k), tE c W (ev R v)) :: ptr c W R r
inductive RepPs (c : Cn) (S : Wd) : List (D × D) → List (V × V) → Prop where
  | nil : RepPs c S [] []
  | cons {k d : D} {x y : V} {ds : List (D × D)} {vs : List (V × V)} (hk : RepD c S k x) (hd : RepD c S d y) (r : RepPs c S ds vs) : RepPs c S ((k, d) :: ds) ((x, y) :: vs)
theorem RepPs.mono {S S' : Wd} (f : Fr S S') {ds : List (D × D)} {vs : List (V × V)} (h : RepPs c S ds vs) : RepPs c S' ds vs := by
  induction h with
  | nil => exact .nil
  | cons hk hd r ih => exact .cons (hk.mono f) (hd.mono f) ih
/-- an operand's value as data, and that its run gave it -/
theorem valD_eq {α β : Type} {fa : OI.Env → Store → Res (M × Pl)} {k : OI.D → OI.Env → Store → Res α} {rep : Wd → Store → α → β → Prop} {σ : L2.St} {Q : β → Hp → Prop} {rest : V → Hp → Prop} {S : Wd} {e : OI.Env} {s : Store} (Rr : Rl c S e s σ)
    (h : PostG c W σ S s ((valD fa e s).bind k) rep Q) (hr : ∀ S1 e1 s1 d v, valD fa e s = .ok d e1 s1 → Rl c S1 e1 s1 σ → StE S S1 s s1 → RepD c S1 d v → rest v S1.H) : tE c W fa σ S.H rest := by
  unfold valD at h
  rw [Res.bind_bind] at h
  refine ⟨S, e, s, rfl, Rr, PostG.bind Rr.toRlS h fun x e1 s1 S1 v q1 R1 st1 rp1 p1 => ?_⟩
  rcases vl_cases R1 rp1 with hb | ⟨S2, m, e2, he, R2, st2, hH, rp2⟩
  · rw [hb] at p1
    exact p1.elim
  · obtain ⟨S3, R3, hH3, hd, st3⟩ := frz_ste R2 rp2
    rw [← hH, ← hH3]
    refine hr S3 e2 s1 m.frz v ?_ R3 ((st1.trans Rr.dom st2).trans Rr.dom st3) hd
    unfold valD
    rw [q1]
    show (vl x.1 x.2 e1 s1).bind _ = _
    rw [he]
    rfl
theorem pairs_ok {α β : Type} {σ : L2.St} {rep : Wd → Store → α → β → Prop} {Q : β → Hp → Prop} {Sb : Wd} {sb : Store} (Rb : RlS c Sb sb) : ∀ (ps : IPs) {S : Wd} {e : OI.Env} {s : Store} {kk : List (OI.D × OI.D) → OI.Env → Store → Res α} {G : List (V × V) → Hp → Prop}, Rl c S e s σ → StE Sb S sb s → PostG c W σ Sb sb ((evk R ps e s).bind kk) rep Q →
    (∀ S1 e1 s1 qs vs, evk R ps e s = .ok qs e1 s1 → Rl c S1 e1 s1 σ → StE S S1 s s1 → RepPs c S1 qs vs → qs.length = ps.len → G vs S1.H) → tPairs (ptr c W R ps) σ S.H G
  | .nil, S, e, s, kk, G, Rr, stb, p, g => g S e s [] [] rfl Rr (StE.refl S s) .nil rfl
  | .cons a b r, S, e, s, kk, G, Rr, stb, p, g => by
    have p : PostG c W σ Sb sb (((valD (ev R a) e s).bind fun k e s => (valD (ev R b) e s).bind fun v e s => (evk R r e s).bind fun ps e s => .ok ((k, v) :: ps) e s).bind kk) rep Q := p
    rw [Res.bind_bind] at p
    refine valD_eq Rr (PostG.shift Rb stb p) fun S1 e1 s1 k x q1 R1 st1 rk => ?_
    rw [q1] at p
    have p : PostG c W σ Sb sb (((valD (ev R b) e1 s1).bind fun v e s => (evk R r e s).bind fun ps e s => .ok ((k, v) :: ps) e s).bind kk) rep Q := p
    rw [Res.bind_bind] at p
    have stb1 := stb.trans Rb.dom st1
    refine valD_eq R1 (PostG.shift Rb stb1 p) fun S2 e2 s2 d y q2 R2 st2 rd => ?_
    rw [q2] at p
    have p : PostG c W σ Sb sb (((evk R r e2 s2).bind fun ps e s => .ok ((k, d) :: ps) e s).bind kk) rep Q := p
    rw [Res.bind_bind] at p
    have stb2 := stb1.trans Rb.dom st2
    refine pairs_ok Rb r (kk := fun ps e s => (Res.ok ((k, d) :: ps) e s).bind kk) R2 stb2 p fun S3 e3 s3 qs vs q3 R3 st3 rq hl => ?_
    refine g S3 e3 s3 ((k, d) :: qs) ((x, y) :: vs) ?_ R3 ((st1.trans Rr.dom st2).trans Rr.dom st3) (.cons ((rk.mono st2.toFr).mono st3.toFr) (rd.mono st3.toFr) rq) (by rw [List.length_cons, hl]; rfl)
    show (valD (ev R a) e s).bind _ = _
    rw [q1]
    show (valD (ev R b) e1 s1).bind _ = _
    rw [q2]
    show (evk R r e2 s2).bind _ = _
    rw [q3]
    rfl
theorem RepPs.keys {S : Wd} {qs : List (OI.D × OI.D)} {vs : List (V × V)} (r : RepPs c S qs vs) (h : (qs.all fun p => keyOk false p.1) = true) : ∃ ws, RepKs c S false qs ws ∧ vs = (kpairs qs ws).map fun kv => (kV kv.1, kv.2) := by
  induction r with
  | nil => exact ⟨[], rfl, rfl⟩
  | @cons k d x y ds vs hk hd r ih =>
    rw [List.all_cons, Bool.and_eq_true] at h
    obtain ⟨ws, h1, h2⟩ := ih h.2
    refine ⟨y :: ws, ⟨y, ws, rfl, h.1, hd, h1⟩, ?_⟩
    rw [h2, keyOf_V h.1 hk]
    rfl
theorem RepPs.length {S : Wd} {qs : List (OI.D × OI.D)} {vs : List (V × V)} (r : RepPs c S qs vs) : vs.length = qs.length := by
  induction r with
  | nil => rfl
  | cons _ _ _ ih => rw [List.length_cons, List.length_cons, ih]
/-- {} -/
theorem s_dct0 {pos : Pos} : PE X (.Dict [] [] pos) (tE c W (ev R (.dct false .nil))) :=
  pe_dnewK.weak fun σ H Q q => by
    obtain ⟨S, e, s, rfl, Rr, p⟩ := q
    intro a na
    have al : Al S (S.put a (.dK []) (some .tmp)) := Al.lay Rr.toRlS na (.inr rfl) (HLo.dK (Nat.zero_le _))
    exact end_al (m := .od false []) Rr p al ⟨a, [], rfl, put_H, put_ow, rfl⟩
theorem len_dmerge : ∀ (more kvs : List (OI.D × OI.D)), (dmerge kvs more).length ≤ kvs.length + more.length
  | [], kvs => by show kvs.length ≤ kvs.length + 0; omega
  | p :: r, kvs => by
    have h1 := len_dmerge r (dput kvs p.1 p.2)
    have h2 : (dput kvs p.1 p.2).length ≤ kvs.length + 1 := by
      unfold dput
      split
      · rw [List.length_map]; omega
      · rw [List.length_append, List.length_singleton]; exact Nat.le_refl _
    show (dmerge (dput kvs p.1 p.2) r).length ≤ _
    rw [List.length_cons]; omega
/-- {k: v, ..} -/
theorem s_dct {pos : Pos} {keys : List (Option Expr)} {values : List Expr} {ps : IPs} (h : PPs X pos keys values (ptr c W R ps)) (hall : keys.all (·.isSome) = true) (hl : keys.length = values.length) (h0 : keys ≠ []) (h15 : keys.length ≤ 15) (hn : ps.len ≤ 15) :
    PE X (.Dict keys values pos) (tE c W (ev R (.dct false ps))) :=
  (pe_disp h hall hl h0 h15).weak fun σ H Q q => by
    obtain ⟨S, e, s, rfl, Rr, p⟩ := q
    intro a na
    have al : Al S (S.put a (.dK []) (some .tmp)) := Al.lay Rr.toRlS na (.inr rfl) (HLo.dK (Nat.zero_le _))
    have R1 := al.rl Rr
    have r0 : RepM c (S.put a (.dK []) (some .tmp)) .tmp (.od false []) (.ref a) := ⟨a, [], rfl, put_H, put_ow, rfl⟩
    obtain ⟨S1', R1', hH, st1', back⟩ := pendT R1 r0
    have goal := pairs_ok Rr.toRlS ps (kk := dctK false) R1' ((al.ste Rr.dom s).trans Rr.dom st1') p (G := fun ps H2 => H2 a = some (.dK []) ∧ ∃ kvs : List (Key × V), ps = kvs.map (fun kv => (kV kv.1, kv.2)) ∧ kvs.length ≤ 15 ∧ Q (.ref a) (L2.upd H2 a (.dK (mergeK [] kvs)))) fun S2 e2 s2 qs vs q2 R2 st2 rq hlen => by
      obtain ⟨S3, hH3, hAm3, f23, R3, st3, r3⟩ := back S2 e2 s2 R2 st2
      have p2 : PostG c W σ S s ((evk R ps e s).bind (dctK false)) (rM c σ) Q := p
      rw [q2] at p2
      have p2 : PostG c W σ S s (dctK false qs e2 s2) (rM c σ) Q := p2
      unfold dctK at p2
      split at p2
      · rename_i hk
        obtain ⟨a', vs0, ea, h1, h2, h3⟩ := r3
        cases ea
        have h3 : vs0 = [] := h3
        subst h3
        obtain ⟨ws, k1, k2⟩ := rq.keys hk
        have k1 := k1.mono f23
        obtain ⟨vs', m1, m2⟩ := kmerge (kvs := []) (vs := []) (c := c) (S := S3) rfl k1
        have hlq : (dmerge [] qs).length ≤ 15 := by
          have := len_dmerge qs []
          rw [List.length_nil] at this
          omega
        obtain ⟨R4, st4⟩ := tmp_upd R3 h2 (o := dHO c a false ((dmerge [] qs).map (·.1)) vs') (HLo.dK (by
          rw [List.length_map, List.length_zip, List.length_map, m1.length]
          omega))
        have := p2 _ (.ref a) R4 (((al.ste Rr.dom s).trans Rr.dom st3).trans Rr.dom st4) ⟨⟨a, vs', rfl, upd_same, h2, m1.mono st4.toFr⟩, trivial⟩
        rw [← hH3]
        refine ⟨h1, kpairs qs ws, k2, by rw [List.length_map, List.length_zip, List.length_map, k1.length]; omega, ?_⟩
        have e : (HO.dK (mergeK [] (kpairs qs ws))) = dHO c a false ((dmerge [] qs).map (·.1)) vs' := by
          show HO.dK _ = HO.dK (kpairs (dmerge [] qs) vs')
          rw [m2]
          rfl
        rw [e]
        exact this
      · exact p2.elim
    rw [hH] at goal
    exact goal
end
end OI

/-! OIu4: list(range(..)), zip, range downwards, chains of three. -/
namespace OI
open PySem PySem.Spec PyProof.Rows L2 RZ
section
variable {X : Cx} {c : Cn} {W : WX} {R : Runs} {tg a a2 a3 : Expr} {ia ib ic : IE} {p lp pos : Pos}
theorem rgV_rep {S : Wd} {i j : Int} : RepDs c S (rng i j) (rgV i j) := by
  unfold rng rgV
  generalize List.range (j - i).toNat = l
  induction l with
  | nil => rfl
  | cons k l ih => exact ⟨_, _, rfl, rfl, ih⟩
/-- list(range(a, b)) -/
theorem s_lrange {pos2 : Pos} (hc : X.calm = true) (hgl : Gl X "list") (hml : X.mg "list" = none) (hg : Gl X "range") (hm : X.mg "range" = none) (hp : plainE a = true) (ha : PE X a (tE c W (ev R ia))) (hp2 : plainE a2 = true) (hb : PE X a2 (tE c W (ev R ib))) :
    PE X (.Call (.Name "list" lp) [.Call (.Name "range" p) [a, a2] [] pos2] [] pos) (tE c W (ev R (.lrange ia ib))) :=
  (pe_listRg hc hgl hml (prg_2 hg hm ha hb (plain_star hp [a2] X.env) (star1 hp2) (any1 hp2)) rfl).weak fun σ H Q q => two_ok q fun S e s m1 m2 x y Rr r1 r2 p => by
    unfold lrangeK at p
    obtain ⟨i, rfl, h1, h2, p⟩ := getI_ok p
    obtain ⟨j, rfl, h3, h4, p⟩ := getI_ok p
    split at p
    · rename_i hr
      have hr := of_decide_eq_true hr
      refine ⟨i, j, r1, r2, ⟨h1, h2, h3, h4, by omega⟩, fun a na => ?_⟩
      obtain ⟨S', al, hH, rp⟩ := new_lst (ds := rng i j) (vs := rgV i j) Rr.toRlS na rgV_rep (by rw [rgV_length]; omega)
      have := end_al Rr p al rp
      rw [hH] at this
      exact this
    · exact p.elim
theorem still_trans {l : List Src} {s s1 s2 : Store} (h1 : still l s s1 = true) (h2 : still l s1 s2 = true) : still l s s2 = true := by
  unfold still at *
  rw [List.all_eq_true] at *
  intro w hw
  have a := h1 w hw
  have b := h2 w hw
  cases w with
  | ent n => exact decide_eq_true ((of_decide_eq_true a).trans (of_decide_eq_true b))
  | slot i => rfl
theorem still_app {l l' : List Src} {s s1 : Store} (h : still (l ++ l') s s1 = true) : still l s s1 = true ∧ still l' s s1 = true := by
  unfold still at *
  rw [List.all_append, Bool.and_eq_true] at h
  exact h
theorem apart_app {l l' : List Src} {ws : List Nat} (h : apart (l ++ l') ws = true) : apart l ws = true ∧ apart l' ws = true := by
  unfold apart at *
  rw [List.all_append, Bool.and_eq_true] at h
  exact h
theorem still_refl (l : List Src) (s : Store) : still l s s = true := by
  unfold still
  rw [List.all_eq_true]
  intro w _
  cases w <;> simp
theorem apart_nil (l : List Src) : apart l [] = true := by
  unfold apart
  rw [List.all_eq_true]
  intro w _
  cases w <;> simp
theorem pairs_how {m1 m2 : M} {ds : List D} (h : pairs m1 m2 = some ds) : (∃ xs ys, m1 = .val (.tup xs) ∧ m2 = .val (.tup ys) ∧ ds = (xs.zip ys).map fun p => .tup [p.1, p.2]) ∨ ∃ xs ys, m1.lst? = some xs ∧ m2.lst? = some ys ∧ ds = (xs.zip ys).map fun p => .tup [p.1, p.2] := by
  unfold pairs at h
  split at h
  · cases h; exact .inl ⟨_, _, rfl, rfl, rfl⟩
  · split at h
    · rename_i xs ys h1 h2
      cases h
      exact .inr ⟨xs, ys, h1, h2, rfl⟩
    · cases h
theorem zip_get {xs ys : List D} {i : Nat} {d : D} (h : ((xs.zip ys).map fun p => D.tup [p.1, p.2])[i]? = some d) : ∃ x y, xs[i]? = some x ∧ ys[i]? = some y ∧ d = .tup [x, y] := by
  rw [List.getElem?_map] at h
  cases e : (xs.zip ys)[i]? with
  | none => rw [e] at h; cases h
  | some p =>
    rw [e] at h
    obtain ⟨x, y⟩ := p
    rw [List.getElem?_zip_eq_some] at e
    exact ⟨x, y, e.1, e.2, (Option.some.inj h).symm⟩
theorem zip_stop {xs ys : List D} {i : Nat} (h : ((xs.zip ys).map fun p => D.tup [p.1, p.2]).length ≤ i) : xs.length ≤ i ∨ ys.length ≤ i := by
  rw [List.length_map, List.length_zip] at h
  omega
section
variable {S : Wd}
theorem gives_zip {a b : Addr} {xs ys : List D} {vs ws : List V} {K : PySem.W.Frag} (hK : K = c.K) (h1 : SqL c.K S.H a vs) (r1 : RepDs c S xs vs) (h2 : SqL c.K S.H b ws) (r2 : RepDs c S ys ws) : WalksAt c (Itz K a b) ((xs.zip ys).map fun p => .tup [p.1, p.2]) S where
  go := fun i d hd => by
    obtain ⟨x, y, hx, hy, _⟩ := zip_get hd
    obtain ⟨v, hv, _⟩ := r1.get hx
    obtain ⟨w, hw, _⟩ := r2.get hy
    rw [hK]
    exact ⟨vs, ws, v, w, h1, h2, hv, hw⟩
  yld := fun i d s x H' hd Rr hy => by
    obtain ⟨T, v, w, rfl, hT, rfl, q1, q2⟩ := hy
    rw [hK] at q1 q2
    obtain ⟨dx, dy, hx, hy, rfl⟩ := zip_get hd
    obtain ⟨v', hv, rv⟩ := r1.get hx
    obtain ⟨w', hw, rw'⟩ := r2.get hy
    have e1 := q1 vs h1
    have e2 := q2 ws h2
    rw [hv] at e1
    rw [hw] at e2
    cases e1
    cases e2
    obtain ⟨S', al, hH, rp⟩ := new_tup Rr hT (ds := [dx, dy]) (vs := [v, w]) ⟨_, _, rfl, rv, _, _, rfl, rw', rfl⟩ (by simp)
    exact ⟨S', al, hH, rp⟩
  stop := fun i hi => by
    rw [hK]
    refine ⟨vs, ws, h1, h2, ?_⟩
    rw [r1.length, r2.length]
    exact zip_stop hi
theorem gives_zipT {a b : Addr} {xs ys : List D} {vs ws : List V} {K : PySem.W.Frag} (hK : K = c.K) (h1 : SqT c.K S.H a vs) (r1 : RepDs c S xs vs) (h2 : SqT c.K S.H b ws) (r2 : RepDs c S ys ws) : WalksAt c (ItzT K a b) ((xs.zip ys).map fun p => .tup [p.1, p.2]) S where
  go := fun i d hd => by
    obtain ⟨x, y, hx, hy, _⟩ := zip_get hd
    obtain ⟨v, hv, _⟩ := r1.get hx
    obtain ⟨w, hw, _⟩ := r2.get hy
    rw [hK]
    exact ⟨vs, ws, v, w, h1, h2, hv, hw⟩
  yld := fun i d s x H' hd Rr hy => by
    obtain ⟨T, v, w, rfl, hT, rfl, q1, q2⟩ := hy
    rw [hK] at q1 q2
    obtain ⟨dx, dy, hx, hy, rfl⟩ := zip_get hd
    obtain ⟨v', hv, rv⟩ := r1.get hx
    obtain ⟨w', hw, rw'⟩ := r2.get hy
    have e1 := q1 vs h1
    have e2 := q2 ws h2
    rw [hv] at e1
    rw [hw] at e2
    cases e1
    cases e2
    obtain ⟨S', al, hH, rp⟩ := new_tup Rr hT (ds := [dx, dy]) (vs := [v, w]) ⟨_, _, rfl, rv, _, _, rfl, rw', rfl⟩ (by simp)
    exact ⟨S', al, hH, rp⟩
  stop := fun i hi => by
    rw [hK]
    refine ⟨vs, ws, h1, h2, ?_⟩
    rw [r1.length, r2.length]
    exact zip_stop hi
theorem gives_down {i j : Int} : WalksAt c (Itc i (-1) (i - j).toNat) (rngDown i j) S where
  go := fun k d hd => by
    have h1 := (List.getElem?_eq_some_iff.mp hd).1
    unfold rngDown at h1
    rw [List.length_map, List.length_range] at h1
    exact h1
  yld := fun k d s x H' hd Rr hy => by
    obtain ⟨e, hx⟩ := hy
    have hlt := (List.getElem?_eq_some_iff.mp hd).1
    have : d = .int (i - (k : Nat)) := by
      unfold rngDown at hd hlt
      rw [List.length_map, List.length_range] at hlt
      rw [List.getElem?_map, List.getElem?_range hlt] at hd
      exact (Option.some.inj hd).symm
    subst this
    refine ⟨S, Al.refl Rr, e.symm, ?_⟩
    rw [hx]
    show V.int _ = V.int _
    congr 1
    omega
  stop := fun k hl => by
    show (i - j).toNat ≤ k
    unfold rngDown at hl
    rw [List.length_map, List.length_range] at hl
    exact hl
end
/-- zip(a, b) -/
theorem s_zip {elts : List Expr} {kk : Nat} {tpos : Pos} (hK : X.K = c.K) (hg : Gl X "zip") (hm : X.mg "zip" = none) (hp : plainE a = true) (ha : PE X a (tE c W (ev R ia))) (hp2 : plainE a2 = true) (hb : PE X a2 (tE c W (ev R ib))) :
    PI X (.Tuple elts kk tpos) (.Call (.Name "zip" p) [a, a2] [] pos) (tI c W (evi R (.zip ia ib))) :=
  (pi_zipA hg hm (pa2 hp ha hp2 hb) (plain_star hp [a2] X.env) (any1 hp2)).weak fun σ H Q q => by
    obtain ⟨S, e, s, rfl, Rr, p⟩ := q
    refine ⟨S, e, s, rfl, Rr, PostG.bind Rr.toRlS p fun x1 e1 s1 S1 v1 q1 R1 st1 rp1 p1 => ?_⟩
    obtain ⟨S1', pl1, R1', hH1, _, rp1', hpl1, _, hwk1, st1'⟩ := pend R1 rp1.1
    replace p1 := PostG.shift R1.toRlS st1' p1
    refine ⟨S1', e1, s1, hH1, R1', PostG.bind R1'.toRlS p1 fun x2 e2 s2 S2 v2 q2 R2 st2 rp2 p2 => ?_⟩
    obtain ⟨S2', pl2, R2', hH2, _, rp2', hpl2, _, hwk2, st2'⟩ := pend R2 rp2.1
    replace p2 := PostG.shift R2.toRlS st2' p2
    unfold zipK at p2
    rw [← hwk1, ← hwk2] at p2
    split at p2
    · rename_i hst
      split at p2
      · rename_i ps hps
        have st12 := st2.trans R1'.dom st2'
        have hx : ∀ ws S' s', StS ws S2' S' s2 s' → still ((wk x1.1 pl1 s1).2 ++ (wk x2.1 pl2 s2).2) s2 s' = true → apart ((wk x1.1 pl1 s1).2 ++ (wk x2.1 pl2 s2).2) ws = true → RepV c S' (wk x1.1 pl1 s1).1 v1 ∧ RepV c S' (wk x2.1 pl2 s2).1 v2 := fun ws S' s' st k ha => by
          obtain ⟨k1, k2⟩ := still_app k
          obtain ⟨a1, a2⟩ := apart_app ha
          exact ⟨wk_keep R1'.toRlS rp1' hpl1 ((st12.sts ws).trans R1'.dom st) (still_trans hst k1) a1, wk_keep R2'.toRlS rp2' hpl2 st k2 a2⟩
        obtain ⟨g1, g2⟩ := hx [] S2' s2 (StS.refl _ _ _) (still_refl _ _) (apart_nil _)
        rw [← hH2]
        show ∃ a b xs ys, [v1, v2] = [.ref a, .ref b] ∧ _
        rcases pairs_how hps with ⟨xs, ys, w1, w2, rfl⟩ | ⟨xs, ys, w1, w2, rfl⟩
        · rw [w1] at g1
          rw [w2] at g2
          obtain ⟨a1, us1, rfl, f1, d1⟩ := g1
          obtain ⟨a2, us2, rfl, f2, d2⟩ := g2
          refine ⟨a1, a2, us1, us2, rfl, .inr ⟨by rw [hK]; exact f1.sq, by rw [hK]; exact f2.sq, p2 S2' _ R2' (StE.refl _ _) fun ws S' s' st k ha => ?_⟩⟩
          obtain ⟨z1, z2⟩ := hx ws S' s' st k ha
          rw [w1] at z1
          rw [w2] at z2
          obtain ⟨b1, ws1, e1, f1', d1'⟩ := z1
          obtain ⟨b2, ws2, e2, f2', d2'⟩ := z2
          cases e1
          cases e2
          exact gives_zipT hK f1'.sq d1' f2'.sq d2'
        · obtain ⟨a1, us1, rfl, f1, d1⟩ := lst_of w1 g1
          obtain ⟨a2, us2, rfl, f2, d2⟩ := lst_of w2 g2
          refine ⟨a1, a2, us1, us2, rfl, .inl ⟨by rw [hK]; exact f1, by rw [hK]; exact f2, p2 S2' _ R2' (StE.refl _ _) fun ws S' s' st k ha => ?_⟩⟩
          obtain ⟨z1, z2⟩ := hx ws S' s' st k ha
          obtain ⟨b1, ws1, e1, f1', d1'⟩ := lst_of w1 z1
          obtain ⟨b2, ws2, e2, f2', d2'⟩ := lst_of w2 z2
          cases e1
          cases e2
          exact gives_zip hK f1' d1' f2' d2'
      · exact p2.elim
    · exact p2.elim
/-- range(a, b, -1) -/
theorem s_rng3 (hg : Gl X "range") (hm : X.mg "range" = none) (hp : plainE a = true) (ha : PE X a (tE c W (ev R ia))) (hp2 : plainE a2 = true) (hb : PE X a2 (tE c W (ev R ib))) (hp3 : plainE a3 = true) (hc : PE X a3 (tE c W (ev R ic))) :
    PI X tg (.Call (.Name "range" p) [a, a2, a3] [] pos) (tI c W (evi R (.rng3 ia ib ic))) :=
  (pi_range3 hg hm (pa3 hp ha hp2 hb hp3 hc) (plain_star hp [a2, a3] X.env) (any2 hp2 hp3)).weak fun σ H Q q => by
    obtain ⟨S, e, s, rfl, Rr, p⟩ := q
    refine ⟨S, e, s, rfl, Rr, PostG.bind Rr.toRlS p fun x1 e1 s1 S1 v1 q1 R1 st1 rp1 p1 => ?_⟩
    obtain ⟨S1', pl', R1', hH, ham, rp1', hpl, hbw, _, st1'⟩ := pend R1 rp1.1
    replace p1 := PostG.shift R1.toRlS st1' p1
    refine ⟨S1', e1, s1, hH, R1', PostG.bind R1'.toRlS p1 fun x2 e2 s2 S2 v2 q2 R2 st2 rp2 p2 => ?_⟩
    obtain ⟨S2', pl2', R2', hH2, ham2, rp2', hpl2, hbw2, _, st2'⟩ := pend R2 rp2.1
    replace p2 := PostG.shift R2.toRlS st2' p2
    refine ⟨S2', e2, s2, hH2, R2', PostG.bind R2'.toRlS p2 fun x3 e3 s3 S3 v3 q3 R3 st3 rp3 p3 => ?_⟩
    split at p3
    · rename_i hs
      rw [Bool.and_eq_true] at hs
      obtain ⟨hs1, hs2⟩ := hs
      rw [← hbw] at hs1 p3
      rw [← hbw2] at hs2 p3
      have r1 := bw_keep R1'.toRlS rp1' hpl ((st2.trans R1'.dom st2').trans R1'.dom st3) hs1
      have r2 := bw_keep R2'.toRlS rp2' hpl2 st3 hs2
      have r3 := bw_view R3.toRlS rp3.1
      unfold rng3K at p3
      obtain ⟨i, z1, h1, h2, p3⟩ := getI_ok p3
      obtain ⟨j, z2, h3, h4, p3⟩ := getI_ok p3
      obtain ⟨k, z3, h5, h6, p3⟩ := getI_ok p3
      rw [z1] at r1
      rw [z2] at r2
      rw [z3] at r3
      split at p3
      · rename_i hk
        subst hk
        refine ⟨i, j, -1, (i - j).toNat, by rw [show v1 = V.int i from r1, show v2 = V.int j from r2, show v3 = V.int (-1) from r3], RgC.neg h1 h2 h3 h4, p3 S3 _ R3 (StE.refl _ _) fun ws S' s' _ _ _ => gives_down⟩
      · exact p3.elim
    · exact p3.elim
/-! a op b op2 c op3 d -/
def tChain3 (r r' r'' : R2) (ta tb tc td : TE) : TE := fun σ H Q => ta σ H fun x H1 => tb σ H1 fun y H2 => r x y H2 fun z H3 => ∃ k, z = .bl k ∧
  (if k = true then tc σ H3 fun w H4 => r' y w H4 fun z' H5 => ∃ k', z' = .bl k' ∧ (if k' = true then td σ H5 fun u H6 => r'' w u H6 Q else Q (.bl false) H5) else Q (.bl false) H3)
theorem pe_chain3 {op op' op'' : CmpOp} {r r' r'' : R2} {a b d d2 : Expr} {ta tb tc td : TE} (ho : OpR X (compareOp op) r) (ho' : OpR X (compareOp op') r') (ho'' : OpR X (compareOp op'') r'') (ha : PE X a ta) (hb : PE X b tb) (hc : PE X d tc) (hd : PE X d2 td)
    (hm : lastMarks [op, op', op''] [b, d, d2] = false) : PE X (.Compare a [op, op', op''] [b, d, d2] pos) (tChain3 r r' r'' ta tb tc td) := by
  refine ⟨fun pins s σ H Q I h => ?_⟩
  refine Compare_chain (thn (ha.run pins s σ H _ I h) fun v s1 ⟨x, H1, I1, r1, q1⟩ => chain_link (thn (hb.run pins s1 σ H1 _ I1 q1) fun u s2 ⟨y, H2, I2, r2, q2⟩ =>
    thn (ho pins s2 σ H2 x y v u _ I2 r1 r2 q2) fun dd s3 ⟨z, H3, I3, r3, k, e, q3⟩ => ?_)) hm
  subst e
  cases r3
  refine wpAny_truthy_bool ?_
  cases k with
  | false => exact ite_ff ⟨.bl false, H3, I3, rfl, q3⟩
  | true =>
    refine ite_tt (chain_link (thn (hc.run pins s3 σ H3 _ I3 q3) fun w' s4 ⟨z', H4, I4, r4, q4⟩ => thn (ho' pins s4 σ H4 y z' u w' _ I4 r2 r4 q4) fun dd s5 ⟨z5, H5, I5, r5, k', e, q5⟩ => ?_))
    subst e
    cases r5
    refine wpAny_truthy_bool ?_
    cases k' with
    | false => exact ite_ff ⟨.bl false, H5, I5, rfl, q5⟩
    | true => exact ite_tt (chain_last (thn (hd.run pins s5 σ H5 _ I5 q5) fun w6 s6 ⟨z6, H6, I6, r6, q6⟩ => ho'' pins s6 σ H6 z' z6 w' w6 Q I6 r4 r6 q6))
theorem pt_chain3 {op op' op'' : CmpOp} {r r' r'' : R2} {a b d d2 : Expr} {ta tb tc td : TE} (ho : OpR X (compareOp op) r) (ho' : OpR X (compareOp op') r') (ho'' : OpR X (compareOp op'') r'') (ha : PE X a ta) (hb : PE X b tb) (hc : PE X d tc) (hd : PE X d2 td)
    (hm : lastMarks [op, op', op''] [b, d, d2] = false) : PT X (.Compare a [op, op', op''] [b, d, d2] pos) (tTest (tChain3 r r' r'' ta tb tc td)) := by
  refine ⟨fun pins s σ H Q I h => ?_⟩
  refine isTrue_chain (thn (ha.run pins s σ H _ I h) fun v s1 ⟨x, H1, I1, r1, q1⟩ => test_link (thn (hb.run pins s1 σ H1 _ I1 q1) fun u s2 ⟨y, H2, I2, r2, q2⟩ =>
    thn (ho pins s2 σ H2 x y v u _ I2 r1 r2 q2) fun dd s3 ⟨z, H3, I3, r3, k, e, q3⟩ => ?_)) hm
  subst e
  cases r3
  refine wpAny_truthy_bool ?_
  cases k with
  | false =>
    obtain ⟨k', e', q'⟩ := q3
    cases e'
    exact ite_ff ⟨H3, I3, q'⟩
  | true =>
    refine ite_tt (test_link (thn (hc.run pins s3 σ H3 _ I3 q3) fun w' s4 ⟨z', H4, I4, r4, q4⟩ => thn (ho' pins s4 σ H4 y z' u w' _ I4 r2 r4 q4) fun dd s5 ⟨z5, H5, I5, r5, k', e, q5⟩ => ?_))
    subst e
    cases r5
    refine wpAny_truthy_bool ?_
    cases k' with
    | false =>
      obtain ⟨k2, e', q'⟩ := q5
      cases e'
      exact ite_ff ⟨H5, I5, q'⟩
    | true =>
      refine ite_tt (test_last (thn (hd.run pins s5 σ H5 _ I5 q5) fun w6 s6 ⟨z6, H6, I6, r6, q6⟩ => thn (ho'' pins s6 σ H6 z' z6 w' w6 _ I6 r4 r6 q6) fun d' s7 ⟨z7, H7, I7, r7, k2, e2, q7⟩ => ?_))
      subst e2
      cases r7
      exact wpAny_truthy_bool ⟨H7, I7, q7⟩
theorem val_keep {S S' : Wd} {m : M} {v : V} (hv : m.isVal = true) (f : Fr S S') (r : RepV c S m v) : RepV c S' m v := by
  cases m with
  | val d => exact RepD.mono f r
  | ol xs => cases hv
  | od t kvs => cases hv
theorem chain3_ok {op op2 op3 : COp} {ja jb jc jd : IE} {σ : L2.St} {H : Hp} {Q : VK} (q : tE c W (ev R (.chain3 op op2 op3 ja jb jc jd)) σ H Q) : tChain3 (R2b c (cmp op)) (R2b c (cmp op2)) (R2b c (cmp op3)) (tE c W (ev R ja)) (tE c W (ev R jb)) (tE c W (ev R jc)) (tE c W (ev R jd)) σ H Q := by
  obtain ⟨S, e, s, rfl, Rr, p⟩ := q
  refine ⟨S, e, s, rfl, Rr, PostG.bind Rr.toRlS p fun x1 e1 s1 S1 v1 q1 R1 st1 rp1 p1 => ?_⟩
  obtain ⟨S1', pl', R1', hH, ham, rp1', hpl, hbw, _, st1'⟩ := pend R1 rp1.1
  replace p1 := PostG.shift R1.toRlS st1' p1
  refine ⟨S1', e1, s1, hH, R1', PostG.bind R1'.toRlS p1 fun x2 e2 s2 S2 v2 q2 R2 st2 rp2 p2 => ?_⟩
  split at p2
  · rename_i hs
    rw [← hbw] at hs p2
    have rx := bw_keep R1'.toRlS rp1' hpl st2 hs
    have ry := bw_view R2.toRlS rp2.1
    generalize (bw x1.1 pl' s1).1 = m1 at rx p2
    generalize (bw x2.1 x2.2 s2).1 = m2 at ry p2
    unfold valK at p2
    dsimp only at p2
    split at p2
    · rename_i hv
      unfold chainK at p2
      split at p2
      · rename_i hc
        refine ⟨S2, s2, m1, m2, true, rfl, R2.toRlS, rx, ry, hc, true, rfl, ?_⟩
        rw [if_pos rfl]
        refine ⟨S2, e2, s2, rfl, R2, PostG.bind R2.toRlS p2 fun x3 e3 s3 S3 v3 q3 R3 st3 rp3 p3 => ?_⟩
        have rz := bw_view R3.toRlS rp3.1
        have ry' := val_keep hv st3.toFr ry
        dsimp only at p3
        generalize (bw x3.1 x3.2 s3).1 = m3 at rz p3
        split at p3
        · rename_i hv3
          split at p3
          · rename_i hc2
            refine ⟨S3, s3, m2, m3, true, rfl, R3.toRlS, ry', rz, hc2, true, rfl, ?_⟩
            rw [if_pos rfl]
            refine ⟨S3, e3, s3, rfl, R3, PostG.bind R3.toRlS p3 fun x4 e4 s4 S4 v4 q4 R4 st4 rp4 p4 => ?_⟩
            obtain ⟨b3, hb3, p4⟩ := outB_ok p4
            exact ⟨S4, s4, m3, _, b3, rfl, R4.toRlS, val_keep hv3 st4.toFr rz, bw_view R4.toRlS rp4.1, hb3, end_val R4 p4 rfl⟩
          · rename_i hc2
            refine ⟨S3, s3, m2, m3, false, rfl, R3.toRlS, ry', rz, hc2, false, rfl, ?_⟩
            rw [if_neg Bool.false_ne_true]
            exact end_val R3 p3 rfl
          · exact p3.elim
        · exact p3.elim
      · rename_i hc
        refine ⟨S2, s2, m1, m2, false, rfl, R2.toRlS, rx, ry, hc, false, rfl, ?_⟩
        rw [if_neg Bool.false_ne_true]
        exact end_val R2 p2 rfl
      · exact p2.elim
    · exact p2.elim
  · exact p2.elim
theorem s_chain3 {op op2 op3 : COp} {o o2 o3 : CmpOp} {a b d d2 : Expr} {ja jb jc jd : IE} (ho : OpR X (compareOp o) (R2b c (cmp op))) (ho2 : OpR X (compareOp o2) (R2b c (cmp op2))) (ho3 : OpR X (compareOp o3) (R2b c (cmp op3))) (hd : plainE d2 = true) (ha : PE X a (tE c W (ev R ja))) (hb : PE X b (tE c W (ev R jb))) (hc : PE X d (tE c W (ev R jc))) (hd2 : PE X d2 (tE c W (ev R jd))) :
    SE X c W (.Compare a [o, o2, o3] [b, d, d2] pos) (ev R (.chain3 op op2 op3 ja jb jc jd)) :=
  ⟨(pe_chain3 ho ho2 ho3 ha hb hc hd2 (show lastMarks [o, o2, o3] [b, d, d2] = false from plain_marks hd o3)).weak fun σ H Q q => chain3_ok q, (pt_chain3 ho ho2 ho3 ha hb hc hd2 (show lastMarks [o, o2, o3] [b, d, d2] = false from plain_marks hd o3)).weak fun σ H Q q => chain3_ok (testB_val q), fun op vs p e => by cases e⟩
end
end OI

/-! OIu5: exceptions: raise, isinstance of a caught one, try. -/
namespace OI
open PySem PySem.Spec PyProof.Rows L2

/-- what of an exception class of the text is known -/
structure ExT (X : Cx) (c : Cn) (k : String) : Prop where
  mg : X.mg (Str.ofString k) = some (.ref (c.cls k))
  kp : PySem.W.keepIn X.K (.ref (c.cls k)) = true
  xc : PySem.W.excIn X.K (c.cls k) [.type "ValueError", .type "Exception", .type "BaseException", .type "object"] "ValueError.__new__" = true
  sb : PySem.W.subIn X.K (.ref (c.cls k)) (.type "BaseException") = some true
  ve : PySem.W.subIn X.K (.ref (c.cls k)) (.type "ValueError") = some true
  ty : PySem.W.typeIn X.K (.ref (c.cls k)) = some (.type "type")
  is : ExcC X.K (c.cls k)
structure ExTab (X : Cx) (c : Cn) (ks : List String) : Prop where
  ex : ∀ k ∈ ks, ExT X c k
  sub : ∀ k ∈ ks, ∀ d ∈ ks, PySem.W.subIn X.K (.ref (c.cls k)) (.ref (c.cls d)) = some (isSub k d)
section
variable {X : Cx} {c : Cn} {W : WX} {ws : List Nat} {R : Runs} {n : Nat} {ks : List String}
theorem ExTab.exm (T : ExTab X c ks) {k d : String} (hk : k ∈ ks) (hd : d ∈ ks) : PySem.W.exmOne X.K (.ref (c.cls k)) (.ref (c.cls d)) = some (isSub k d) :=
  PySem.W.exm_ref (T.ex d hd).sb (T.ex d hd).is.hd (T.ex d hd).ty (T.sub k hk d hd)
theorem ExTab.kit (T : ExTab X c ks) {k d : String} (hk : k ∈ ks) (hd : d ∈ ks) : PySem.W.kitOne X.K (.ref (c.cls k)) (.ref (c.cls d)) = some (isSub k d) := by
  have e := T.exm hk hd
  have hsb := (T.ex d hd).sb
  unfold PySem.W.exmOne at e
  rw [hsb, if_pos (by rfl)] at e
  unfold PySem.W.kitOne
  split
  · rename_i h
    have h1 : (Value.ref (c.cls k)) = .ref (c.cls d) := beq_iff_eq.mp h
    have h2 := T.sub k hk d hd
    have h3 := T.sub d hd d hd
    rw [h1, h3] at h2
    rw [← Option.some.inj h2]
    simp [isSub]
  · exact e
theorem ExTab.kitVE (T : ExTab X c ks) {k : String} (hk : k ∈ ks) : PySem.W.kitOne X.K (.ref (c.cls k)) (.type "ValueError") = some true := by
  unfold PySem.W.kitOne
  rw [if_neg (by simp)]
  show (if PySem.W.kitMeta "ValueError" = true then PySem.W.subIn X.K (.ref (c.cls k)) (.type "ValueError") else none) = some true
  rw [if_pos (by decide +kernel)]
  exact (T.ex k hk).ve
/-- raise K('..') -/
theorem s_rais {k m : String} {mm : Str} {j : Nat} {p p2 cp pos : Pos} (hc : X.calm = true) (tk : Takes X W) (E : ExT X c k) (hg : Gl X (Str.ofString k)) (hdb : (Str.ofString k == ("__debug__" : Str)) = false) :
    PS X (.Raise (some (.Call (.Name (Str.ofString k) p) [.Constant (.str mm) j p2] [] cp)) none pos) (tS c W ws (exec R n (.rais k))) :=
  (ps_raise hc tk (pmk_own PySem.F.excBase_ValueError E.xc E.mg E.kp (raises_own E.sb E.ty) hg hdb)).weak fun D σ H q => by
    obtain ⟨S, e, s, rfl, Rr, p⟩ := q
    exact p S σ Rr (StS.refl ws S s)

/-! ### isinstance of what an except suite holds -/
def tyV (c : Cn) : Ty → V
  | .own k => .ref (c.cls k)
  | _ => .ty "ValueError"
def tyU (c : Cn) : Ty → Value
  | .own k => .ref (c.cls k)
  | _ => .type "ValueError"
/-- isinstance(e, (C, ..)), e the exception that the suite holds -/
def rIsET (K : PySem.W.Frag) (D a : Addr) : List V → Hp → VK → Prop := fun xs H Q => ∃ (tp : Addr) (cs : List V) (us : List Value) (b : Bool), xs = [.ref a, .ref tp] ∧ H tp = some (.tup cs) ∧ Paired ClsV cs us ∧ PySem.W.kitAny K (.ref D) us = some b ∧ Q (.bl b) H
theorem call_isET {a D : Addr} {oe : Obj} {pn : List (Addr × Obj)} (C : ExcC X.K D) (hz : Zc (.ref D) none oe) (hf : ∃ vs, oe.data = .fields vs) : CallR (X.suite a ((a, oe) :: pn)) (.builtin "isinstance") (rIsET X.K D a) := by
  intro pins s σ H xs us Q I r h
  obtain ⟨tp, cs, ws, b, rfl, hT, k, e, q⟩ := h
  obtain ⟨u1, u2, rfl, r1, r2⟩ := vals2 r
  cases (show u1 = Value.ref a from r1)
  cases (show u2 = Value.ref tp from r2)
  obtain ⟨hget, _⟩ := I.pin (a, oe) (List.mem_append.mpr (.inl List.mem_cons_self))
  obtain ⟨vs, hv⟩ := hf
  have J : PySem.W.InstAt s.heap a oe D none := by
    obtain ⟨oc, od, oda, osl⟩ := oe
    obtain ⟨h1, h2⟩ := hz
    dsimp only at h1 h2 hv
    subst h1 h2 hv
    exact ⟨hget, rfl, rfl, trivial⟩
  obtain ⟨_, its, rv, o, h1, h2, n, h3⟩ := (show ObjOk X.prog X.w H s.heap tp (.tup cs) from I.hok tp _ hT)
  have e3 := ClsV.all k rv
  subst e3
  obtain ⟨oc, od, dt, sl⟩ := o
  simp only at h2 h3
  subst h2 h3
  exact PySem.W.kia_tup (PySem.W.handS_kitx_exc C.hg C.hk C.hs C.hd C.ha C.hn C.ht C.hm) I.kIn J h1 e (fun z => nomatch z) fun tk => ⟨.bl b, H, I.tok tk, rfl, q⟩
/-- what a suite knows of the exception that it holds -/
def HotE (X : Cx) (c : Cn) (ks : List String) : Prop := ∀ a k, c.exn = some (a, k) → k ∈ ks ∧ CallR X (.builtin "isinstance") (rIsE X.K (c.cls k) a) ∧ CallR X (.builtin "isinstance") (rIsET X.K (c.cls k) a)
/-- a class's name, as it is written -/
inductive ClName (X : Cx) (ks : List String) : Expr → Ty → Prop where
  | own {k : String} {p : Pos} (hk : k ∈ ks) (hg : Gl X (Str.ofString k)) (hdb : (Str.ofString k == ("__debug__" : Str)) = false) : ClName X ks (.Name (Str.ofString k) p) (.own k)
  | ve {p : Pos} (hg : Gl X "ValueError") (hm : X.mg "ValueError" = none) : ClName X ks (.Name "ValueError" p) .valueError
inductive ClNames (X : Cx) (ks : List String) : List Expr → List Ty → Prop where
  | nil : ClNames X ks [] []
  | cons {e : Expr} {t : Ty} {es : List Expr} {ts : List Ty} (h : ClName X ks e t) (r : ClNames X ks es ts) : ClNames X ks (e :: es) (t :: ts)
theorem ClName.pe (T : ExTab X c ks) {e : Expr} {t : Ty} (h : ClName X ks e t) : PE X e (fun _ H Q => Q (tyV c t) H) := by
  cases h with
  | own hk hg hdb => exact (pe_glob hg (T.ex _ hk).mg rfl hdb)
  | ve hg hm => exact pe_bltn (v := .ty "ValueError") hg hm (by decide +kernel) rfl (by decide) (by decide)
theorem ClName.plain {e : Expr} {t : Ty} (h : ClName X ks e t) : plainE e = true := by cases h <;> rfl
theorem ClNames.pa (T : ExTab X c ks) : ∀ {es : List Expr} {ts : List Ty}, ClNames X ks es ts → PA X es fun _ H Q => Q (ts.map (tyV c)) H
  | _, _, .nil => pa_nil
  | _, _, .cons h r => pa_cons (h.pe T) (r.pa T) (plain_star h.plain _ X.env)
theorem clsv1 : ∀ t : Ty, ClsV (tyV c t) (tyU c t) := fun t => by cases t <;> first | exact .own _ | exact .ty _
theorem clsvs : ∀ ts : List Ty, Paired ClsV (ts.map (tyV c)) (ts.map (tyU c))
  | [] => .nil
  | t :: ts => .cons (clsv1 t) (clsvs ts)
theorem ClName.kit (T : ExTab X c ks) {e : Expr} {t : Ty} (h : ClName X ks e t) {k : String} (hk : k ∈ ks) {s : Store} {b : Bool} (hb : tyIs s (.exn k) t = some b) : PySem.W.kitOne X.K (.ref (c.cls k)) (tyU c t) = some b := by
  cases h with
  | own hk2 hg hdb =>
    cases hb
    exact T.kit hk hk2
  | ve hg hm =>
    cases hb
    exact T.kitVE hk
theorem ClNames.kit (T : ExTab X c ks) {k : String} (hk : k ∈ ks) {s : Store} : ∀ {es : List Expr} {ts : List Ty} {b : Bool}, ClNames X ks es ts → tyAny s (.exn k) ts = some b → PySem.W.kitAny X.K (.ref (c.cls k)) (ts.map (tyU c)) = some b
  | _, _, b, .nil, hb => by cases hb; rfl
  | _, _, b, .cons h r, hb => by
    unfold tyAny at hb
    split at hb
    · rename_i h3
      cases hb
      exact kitAny_cons (h.kit T hk h3) (fun z => nomatch z) fun _ => rfl
    · rename_i h3
      exact kitAny_cons (h.kit T hk h3) (fun _ => ClNames.kit T hk r hb) fun z => nomatch z
    · cases hb
theorem exn_of {S : Wd} {pl : Pl} {m : M} {v : V} {t : Ty} {s : Store} {b : Bool} {e : Expr} (h : ClName X ks e t) (r : RepM c S pl m v) (hb : tyIs s m.frz t = some b) : ∃ k a, m.frz = .exn k ∧ v = .ref a ∧ c.exn = some (a, k) := by
  have hm : ∃ k, m.frz = .exn k := by
    cases h with
    | own =>
      unfold tyIs at hb
      dsimp only at hb
      split at hb
      · exact ⟨_, by assumption⟩
      · cases hb
    | ve =>
      unfold tyIs at hb
      dsimp only at hb
      split at hb
      · exact ⟨_, by assumption⟩
      · cases hb
  obtain ⟨k, hk⟩ := hm
  cases m with
  | val d =>
    have hk : d = .exn k := hk
    subst hk
    obtain ⟨a, h1, h2⟩ := r
    exact ⟨k, a, rfl, h1, h2⟩
  | ol xs => cases hk
  | od t kvs => cases hk
theorem s_isiE1 {a e : Expr} {ia : IE} {t : Ty} {p pos : Pos} (T : ExTab X c ks) (hot : HotE X c ks) (hg : Gl X "isinstance") (hm : X.mg "isinstance" = none) (hT : ClName X ks e t) (hp : plainE a = true) (ha : PE X a (tE c W (ev R ia))) :
    PE X (.Call (.Name "isinstance" p) [a, e] [] pos) (tE c W (ev R (.isi ia true [t]))) := by
  refine ⟨fun pins s σ H Q I q => ?_⟩
  cases hx : c.exn with
  | none =>
    -- nothing is held: the test has no answer
    refine (pe_callB (r := fun _ _ _ => False) (fun _ _ _ _ _ _ _ _ _ z => z.elim) hg hm rfl (pa2 hp ha hT.plain (hT.pe T)) (by decide) (by decide) (plain_star hp _ X.env) (any1 hT.plain)).run pins s σ H Q I ?_
    exact isi_ok q fun S e s m pl v b Rr rp hb p => by
      obtain ⟨k, a, _, _, h3⟩ := exn_of hT rp (any_one hb)
      rw [hx] at h3
      cases h3
  | some ak =>
    obtain ⟨a0, k0⟩ := ak
    obtain ⟨hk, h1, h2⟩ := hot a0 k0 hx
    refine (pe_callB h1 hg hm rfl (pa2 hp ha hT.plain (hT.pe T)) (by decide) (by decide) (plain_star hp _ X.env) (any1 hT.plain)).run pins s σ H Q I ?_
    exact isi_ok q fun S e s m pl v b Rr rp hb p => by
      obtain ⟨k, a, g1, rfl, g3⟩ := exn_of hT rp (any_one hb)
      rw [hx] at g3
      cases g3
      rw [g1] at hb
      refine ⟨tyV c t, tyU c t, b, rfl, fun u hu => (clsv1 t).eq hu, hT.kit T hk (any_one hb), end_val Rr p rfl⟩
theorem s_isiET {a : Expr} {es : List Expr} {ia : IE} {t0 : Ty} {ts : List Ty} {kk : Nat} {tp p pos : Pos} (T : ExTab X c ks) (hot : HotE X c ks) (hg : Gl X "isinstance") (hm : X.mg "isinstance" = none) (hT : ClNames X ks es (t0 :: ts)) (hl : (t0 :: ts).length ≤ 1000) (hp : plainE a = true) (ha : PE X a (tE c W (ev R ia))) :
    PE X (.Call (.Name "isinstance" p) [a, .Tuple es kk tp] [] pos) (tE c W (ev R (.isi ia false (t0 :: ts)))) := by
  refine ⟨fun pins s σ H Q I q => ?_⟩
  have first : ∀ {S : Wd} {pl : Pl} {m : M} {v : V} {b : Bool} {s : Store}, RepM c S pl m v → tyAny s m.frz (t0 :: ts) = some b → ∃ k a, m.frz = .exn k ∧ v = .ref a ∧ c.exn = some (a, k) := fun rp hb => by
    cases hT with
    | cons h r =>
      unfold tyAny at hb
      split at hb
      · rename_i h3; exact exn_of h rp h3
      · rename_i h3; exact exn_of h rp h3
      · cases hb
  cases hx : c.exn with
  | none =>
    refine (pe_callB (r := fun _ _ _ => False) (fun _ _ _ _ _ _ _ _ _ z => z.elim) hg hm rfl (pa2 hp ha rfl (pe_tup (hT.pa T))) (by decide) (by decide) (plain_star hp _ X.env) (any1 rfl)).run pins s σ H Q I ?_
    exact isi_ok q fun S e s m pl v b Rr rp hb p => by
      obtain ⟨k, a, _, _, h3⟩ := first rp hb
      rw [hx] at h3
      cases h3
  | some ak =>
    obtain ⟨a0, k0⟩ := ak
    obtain ⟨hk, h1, h2⟩ := hot a0 k0 hx
    refine (pe_callB h2 hg hm rfl (pa2 hp ha rfl (pe_tup (hT.pa T))) (by decide) (by decide) (plain_star hp _ X.env) (any1 rfl)).run pins s σ H Q I ?_
    exact isi_ok q fun S e s m pl v b Rr rp hb p => by
      obtain ⟨k, a, g1, rfl, g3⟩ := first rp hb
      rw [hx] at g3
      cases g3
      rw [g1] at hb
      refine ⟨by rw [List.length_map, sizeLine_eq]; omega, fun ad nq => ?_⟩
      have hlv : ((t0 :: ts).map (tyV c)).length ≤ 16777216 := by rw [List.length_map]; omega
      have al : Al S (S.put ad (.tup ((t0 :: ts).map (tyV c))) none) := Al.lay Rr.toRlS nq (.inl rfl) (HLo.tup hlv)
      have Rr' := al.rl Rr
      exact ⟨ad, _, _, b, rfl, upd_same, clsvs (t0 :: ts), hT.kit T hk hb, end_val Rr' (PostG.shift Rr.toRlS (al.ste Rr.dom s) p) rfl⟩
end

/-! ### what is no exception -/
def Cn.ex (c : Cn) (a : Addr) (k : String) : Cn := { c with exn := some (a, k) }
section
variable {c : Cn} {S : Wd} {a : Addr} {k : String}
mutual
theorem RepD.noEx (hx : c.exn = none) : ∀ {d : D} {v : V}, RepD c S d v → d.noEx = true
  | .non, _, _ => rfl
  | .bl _, _, _ => rfl
  | .int _, _, _ => rfl
  | .str _, _, _ => rfl
  | .tup xs, _, ⟨p, vs, e, h1, h2⟩ => RepDs.noEx hx h2
  | .lst xs, _, ⟨p, vs, e, h1, h2, h3⟩ => RepDs.noEx hx h3
  | .dic t kvs, _, ⟨p, vs, e, h1, h2, h3⟩ => RepKs.noEx hx h3
  | .scr _, _, _ => rfl
  | .loc _, _, _ => rfl
  | .exn _, _, ⟨a, e, h⟩ => by rw [hx] at h; cases h
  | .lam _ _, _, h => False.elim h
theorem RepDs.noEx (hx : c.exn = none) : ∀ {d : List D} {v : List V}, RepDs c S d v → D.noExs d = true
  | [], _, _ => rfl
  | d :: ds, _, ⟨v, r, e, h1, h2⟩ => by
    unfold D.noExs
    rw [RepD.noEx hx h1, RepDs.noEx hx h2]
    rfl
theorem RepKs.noEx (hx : c.exn = none) {t : Bool} : ∀ {d : List (D × D)} {v : List V}, RepKs c S t d v → D.noExk d = true
  | [], _, _ => rfl
  | (k, d) :: ds, _, ⟨v, r, e, h0, h1, h2⟩ => by
    unfold D.noExk
    rw [RepD.noEx hx h1, RepKs.noEx hx h2]
    rfl
end
mutual
theorem RepD.ex (hx : c.exn = none) : ∀ {d : D} {v : V}, RepD c S d v → RepD (c.ex a k) S d v
  | .non, _, h => h
  | .bl _, _, h => h
  | .int _, _, h => h
  | .str _, _, h => h
  | .tup xs, _, ⟨p, vs, e, h1, h2⟩ => ⟨p, vs, e, h1, RepDs.ex hx h2⟩
  | .lst xs, _, ⟨p, vs, e, h1, h2, h3⟩ => ⟨p, vs, e, h1, h2, RepDs.ex hx h3⟩
  | .dic t kvs, _, ⟨p, vs, e, h1, h2, h3⟩ => ⟨p, vs, e, h1, h2, RepKs.ex hx h3⟩
  | .scr _, _, h => h
  | .loc _, _, h => h
  | .exn _, _, ⟨a, e, h⟩ => by rw [hx] at h; cases h
  | .lam _ _, _, h => False.elim h
theorem RepDs.ex (hx : c.exn = none) : ∀ {d : List D} {v : List V}, RepDs c S d v → RepDs (c.ex a k) S d v
  | [], _, h => h
  | d :: ds, _, ⟨v, r, e, h1, h2⟩ => ⟨v, r, e, RepD.ex hx h1, RepDs.ex hx h2⟩
theorem RepKs.ex (hx : c.exn = none) {t : Bool} : ∀ {d : List (D × D)} {v : List V}, RepKs c S t d v → RepKs (c.ex a k) S t d v
  | [], _, h => h
  | (k, d) :: ds, _, ⟨v, r, e, h0, h1, h2⟩ => ⟨v, r, e, h0, RepD.ex hx h1, RepKs.ex hx h2⟩
end
mutual
theorem RepD.unex : ∀ {d : D} {v : V}, d.noEx = true → RepD (c.ex a k) S d v → RepD c S d v
  | .non, _, _, h => h
  | .bl _, _, _, h => h
  | .int _, _, _, h => h
  | .str _, _, _, h => h
  | .tup xs, _, n, ⟨p, vs, e, h1, h2⟩ => ⟨p, vs, e, h1, RepDs.unex n h2⟩
  | .lst xs, _, n, ⟨p, vs, e, h1, h2, h3⟩ => ⟨p, vs, e, h1, h2, RepDs.unex n h3⟩
  | .dic t kvs, _, n, ⟨p, vs, e, h1, h2, h3⟩ => ⟨p, vs, e, h1, h2, RepKs.unex n h3⟩
  | .scr _, _, _, h => h
  | .loc _, _, _, h => h
  | .exn _, _, n, _ => by cases n
  | .lam _ _, _, _, h => False.elim h
theorem RepDs.unex : ∀ {d : List D} {v : List V}, D.noExs d = true → RepDs (c.ex a k) S d v → RepDs c S d v
  | [], _, _, h => h
  | d :: ds, _, n, ⟨v, r, e, h1, h2⟩ => by
    unfold D.noExs at n
    rw [Bool.and_eq_true] at n
    exact ⟨v, r, e, RepD.unex n.1 h1, RepDs.unex n.2 h2⟩
theorem RepKs.unex {t : Bool} : ∀ {d : List (D × D)} {v : List V}, D.noExk d = true → RepKs (c.ex a k) S t d v → RepKs c S t d v
  | [], _, _, h => h
  | (k, d) :: ds, _, n, ⟨v, r, e, h0, h1, h2⟩ => by
    unfold D.noExk at n
    rw [Bool.and_eq_true] at n
    exact ⟨v, r, e, h0, RepD.unex n.1 h1, RepKs.unex n.2 h2⟩
end
theorem RepM.noEx (hx : c.exn = none) {pl : Pl} {m : M} {v : V} (r : RepM c S pl m v) : m.frz.noEx = true := by
  cases m with
  | val d => exact RepD.noEx hx r
  | ol xs => obtain ⟨p, vs, _, _, _, h⟩ := r; exact RepDs.noEx hx h
  | od t kvs => obtain ⟨p, vs, _, _, _, h⟩ := r; exact RepKs.noEx hx h
theorem RepM.ex (hx : c.exn = none) {pl : Pl} {m : M} {v : V} (r : RepM c S pl m v) : RepM (c.ex a k) S pl m v := by
  cases m with
  | val d => exact RepD.ex hx r
  | ol xs => obtain ⟨p, vs, e, h1, h2, h⟩ := r; exact ⟨p, vs, e, h1, h2, RepDs.ex hx h⟩
  | od t kvs => obtain ⟨p, vs, e, h1, h2, h⟩ := r; exact ⟨p, vs, e, h1, h2, RepKs.ex hx h⟩
theorem RepM.unex {pl : Pl} {m : M} {v : V} (n : m.frz.noEx = true) (r : RepM (c.ex a k) S pl m v) : RepM c S pl m v := by
  cases m with
  | val d => exact RepD.unex n r
  | ol xs => obtain ⟨p, vs, e, h1, h2, h⟩ := r; exact ⟨p, vs, e, h1, h2, RepDs.unex n h⟩
  | od t kvs => obtain ⟨p, vs, e, h1, h2, h⟩ := r; exact ⟨p, vs, e, h1, h2, RepKs.unex n h⟩
theorem RepF.ex (hx : c.exn = none) {n : Nat} : ∀ {fs : List (String × M)} {gs : List (Str × V)}, RepF c S n fs gs → RepF (c.ex a k) S n fs gs
  | [], _, h => h
  | (f, m) :: r, _, ⟨v, q, e, h1, h2⟩ => ⟨v, q, e, h1.ex hx, RepF.ex hx h2⟩
theorem RepF.unex (hx : c.exn = none) {n : Nat} {S0 : Wd} : ∀ {fs : List (String × M)} {gs gs0 : List (Str × V)}, RepF c S0 n fs gs0 → RepF (c.ex a k) S n fs gs → RepF c S n fs gs
  | [], _, _, _, h => h
  | (f, m) :: r, _, _, ⟨_, _, _, g1, g2⟩, ⟨v, q, e, h1, h2⟩ => ⟨v, q, e, h1.unex (g1.noEx hx), RepF.unex hx g2 h2⟩
theorem RepO.ex (hx : c.exn = none) {n : Nat} {p : Addr} {o : SObj} (r : RepO c S n p o) : RepO (c.ex a k) S n p o := by
  cases o with
  | ins kk fs => obtain ⟨dx, fs', h1, h2, h3⟩ := r; exact ⟨dx, fs', h1, h2.ex hx, h3⟩
  | lst xs => obtain ⟨vs, h1, h2⟩ := r; exact ⟨vs, h1, h2.ex hx⟩
  | dic t kvs => obtain ⟨vs, h1, h2⟩ := r; exact ⟨vs, h1, h2.ex hx⟩
theorem RepO.unex (hx : c.exn = none) {S0 : Wd} {n : Nat} {p p0 : Addr} {o : SObj} (r0 : RepO c S0 n p0 o) (r : RepO (c.ex a k) S n p o) : RepO c S n p o := by
  cases o with
  | ins kk fs =>
    obtain ⟨_, _, _, g, _⟩ := r0
    obtain ⟨dx, fs', h1, h2, h3⟩ := r
    exact ⟨dx, fs', h1, RepF.unex hx g h2, h3⟩
  | lst xs =>
    obtain ⟨_, _, g⟩ := r0
    obtain ⟨vs, h1, h2⟩ := r
    exact ⟨vs, h1, h2.unex (g.noEx hx)⟩
  | dic t kvs =>
    obtain ⟨_, _, g⟩ := r0
    obtain ⟨vs, h1, h2⟩ := r
    exact ⟨vs, h1, h2.unex (g.noEx hx)⟩
theorem RlS.ex (hx : c.exn = none) {s : Store} (R : RlS c S s) : RlS (c.ex a k) S s :=
  ⟨R.len, fun n e h => by obtain ⟨p, h1, h2, h3⟩ := R.obj n e h; exact ⟨p, h1, h2, h3.ex hx⟩, R.dom, R.src, R.hl⟩
theorem RlS.unex (hx : c.exn = none) {S0 : Wd} {s : Store} (R0 : RlS c S0 s) (R : RlS (c.ex a k) S s) : RlS c S s :=
  ⟨R.len, fun n e h => by
    obtain ⟨p0, _, _, g⟩ := R0.obj n e h
    obtain ⟨p, h1, h2, h3⟩ := R.obj n e h
    exact ⟨p, h1, h2, RepO.unex hx g h3⟩, R.dom, R.src, R.hl⟩
theorem Rl.ex (hx : c.exn = none) {e : OI.Env} {s : Store} {σ : L2.St} (R : Rl c S e s σ) : Rl (c.ex a k) S e s σ :=
  ⟨R.toRlS.ex hx, R.elen, fun i m h => by obtain ⟨v, h1, h2⟩ := R.slot i m h; exact ⟨v, h1, h2.ex hx⟩⟩
end

/-! ### try -/
section
variable {X : Cx} {c : Cn} {W : WX} {ws ws2 : List Nat} {R : Runs} {n : Nat} {ks : List String}
theorem s_tryA {b h : ISs} {kc : String} {i : Nat} {nm : Str} {body suite : List Stmt} {b0 : Stmt} {np pos' pos : Pos} (hs : X.stack = X.env :: X.outer) (hf : X.env.frame = some X.env.locals) (hN : X.N.Nodup) (hi : X.N[i]? = some nm) (hln : X.env.kindOf nm = some .local)
    (T : ExTab X c ks) (hkc : kc ∈ ks) (hg : Gl X (Str.ofString kc)) (hdb : (Str.ofString kc == ("__debug__" : Str)) = false) (tk : Takes X W) (hx : c.exn = none) (hiw : i ∈ ws)
    (hb : ∀ (W' : WX) (pn : List (Addr × Obj)) (xe : Value → Shared → Prop), Takes (X.tr pn xe) W' → PassesOwn (model X.prog X.w) X.A X.env xe → PSs (X.tr pn xe) body (tS c W' ws (execs R n b)))
    (hsu : ∀ (a : Addr) (oe : Obj) (k : String) (pn : List (Addr × Obj)), k ∈ ks → Zc (.ref (c.cls k)) none oe → (∃ vs, oe.data = .fields vs) → PSs (X.suite a ((a, oe) :: pn)) (b0 :: suite) (tS (c.ex a k) WN ws2 (execs R n h))) :
    PS X (.Try body [.ExceptHandler (some (.Name (Str.ofString kc) np)) (some nm) (b0 :: suite) pos'] [] [] pos) (tS c W ws (exec R n (.tryA b ks kc i h))) :=
  (ps_try_as (ts := fun a cls d D σ H => ∃ k, k ∈ ks ∧ cls = .ref (c.cls k) ∧ d = none ∧ tS (c.ex a k) WN ws2 (execs R n h) D σ H) hs hf hN hi hln ⟨hg, hdb, .inl (T.ex kc hkc).mg⟩ tk hb
    (fun a oe cls d pn hz hfld => ⟨fun pins s σ H D I q => by
      obtain ⟨k, hk, e1, e2, q⟩ := q
      subst e1 e2
      exact (hsu a oe k pn hk hz hfld).run pins s σ H D I q⟩)).weak fun D σ H q => by
    obtain ⟨S, e, s, rfl, Rr, p⟩ := q
    refine ⟨S, e, s, rfl, Rr, ?_⟩
    unfold exec at p
    cases hr : execs R n b e s with
    | ok f e1 s1 =>
      rw [hr] at p
      cases f with
      | nx => exact p
      | ret m => exact p
    | bad => rw [hr] at p; exact p
    | err k e1 s1 =>
      rw [hr] at p
      dsimp only at p
      intro S' σ' R' st'
      split at p
      · rename_i hk
        have hk : k ∈ ks := by simpa using hk
        refine ⟨isSub k kc, T.exm hk hkc, fun hsub a _ => ?_, fun hsub => ?_⟩
        · rw [if_pos hsub] at p
          split at p
          · rename_i hlt
            refine ⟨k, hk, rfl, rfl, S', e1.set i (some (.val (.exn k))), s1, rfl, set_val (R'.ex hx) hlt ⟨a, rfl, rfl⟩, ?_⟩
            cases hq : execs R n h (e1.set i (some (.val (.exn k)))) s1 with
            | ok f e2 s2 =>
              rw [hq] at p
              cases f with
              | nx => exact p.elim
              | ret m =>
                unfold caught at p
                dsimp only at p
                split at p
                · rename_i hm
                  obtain ⟨rfl, hm⟩ := hm
                  intro S2 v R2 st2 rp
                  exact p S2 v (RlS.unex hx R'.toRlS R2) (st'.toStC.trans st2) (rp.unex hm)
                · exact p.elim
            | err k2 e2 s2 => rw [hq] at p; exact p.elim
            | bad => rw [hq] at p; exact p.elim
          · exact p.elim
        · rw [if_neg (by rw [hsub]; simp)] at p
          exact p S' σ' R' st'
      · exact p.elim
def hdl (c : Cn) (R : Runs) (n : Nat) (ws : List Nat) : IHs → List (Value × (Addr → Value → Option Addr → TS))
  | .nil => []
  | .cons d b r => (.ref (c.cls d), fun _ _ _ => tS c WN ws (execs R n b)) :: hdl c R n ws r
def IHs.cls : IHs → List String
  | .nil => []
  | .cons d _ r => d :: r.cls
theorem many_ok {k : String} (T : ExTab X c ks) (hk : k ∈ ks) {S : Wd} {s s1 : Store} {e1 : OI.Env} {D : Ends} (Rs : RlS c S s) : ∀ (hs : IHs), (∀ d ∈ hs.cls, d ∈ ks) → PostS c W ws S s (execH R n hs k e1 s1) D → ∀ S' σ', Rl c S' e1 s1 σ' → StS ws S S' s s1 →
    wMany X.K W D (hdl c R n ws hs) (.ref (c.cls k)) none σ' S'.H
  | .nil, hd, p, S', σ', R', st' => p S' σ' R' st'
  | .cons d b r, hd, p, S', σ', R', st' => by
    have p : PostS c W ws S s (if isSub k d then quiet (execs R n b e1 s1) else execH R n r k e1 s1) D := p
    refine ⟨isSub k d, T.exm hk (hd d (List.mem_cons_self ..)), fun hsub a _ => ?_, fun hsub => ?_⟩
    · rw [if_pos hsub] at p
      refine ⟨S', e1, s1, rfl, R', ?_⟩
      have p2 := PostS.shift Rs st' p
      cases hq : execs R n b e1 s1 with
      | ok f e2 s2 =>
        rw [hq] at p2
        cases f with
        | nx => exact p2
        | ret m => exact p2
      | err k2 e2 s2 => rw [hq] at p2; exact p2.elim
      | bad => rw [hq] at p2; exact p2.elim
    · rw [if_neg (by rw [hsub]; simp)] at p
      exact many_ok T hk Rs r (fun d hd' => hd d (List.mem_cons_of_mem _ hd')) p S' σ' R' st'
theorem s_tryM {b : ISs} {hs : IHs} {body : List Stmt} {h0 : ExceptHandler} {hds : List ExceptHandler} {pos : Pos} (hs0 : X.stack = X.env :: X.outer) (hf : X.env.frame = some X.env.locals) (T : ExTab X c ks) (hd : ∀ d ∈ hs.cls, d ∈ ks) (tk : Takes X W)
    (hb : ∀ (W' : WX) (pn : List (Addr × Obj)) (xe : Value → Shared → Prop), Takes (X.tr pn xe) W' → PassesOwn (model X.prog X.w) X.A X.env xe → PSs (X.tr pn xe) body (tS c W' ws (execs R n b)))
    (hh : HdsOk X (h0 :: hds) (hdl c R n ws hs)) : PS X (.Try body (h0 :: hds) [] [] pos) (tS c W ws (exec R n (.tryM b ks hs))) :=
  (ps_try_many hs0 hf tk hb hh).weak fun D σ H q => by
    obtain ⟨S, e, s, rfl, Rr, p⟩ := q
    refine ⟨S, e, s, rfl, Rr, ?_⟩
    unfold exec at p
    cases hr : execs R n b e s with
    | ok f e1 s1 =>
      rw [hr] at p
      cases f with
      | nx => exact p
      | ret m => exact p
    | bad => rw [hr] at p; exact p
    | err k e1 s1 =>
      rw [hr] at p
      dsimp only at p
      split at p
      · rename_i hk
        exact many_ok T (by simpa using hk) Rr.toRlS hs hd p
      · exact p.elim
end

/-! ### d.update(d2) -/
section
variable {X : Cx} {c : Cn} {W : WX} {ws : List Nat} {R : Runs} {n : Nat} {pos apos cpos : Pos} {o a : Expr} {io ia : IE}
def rUpdate : V → List V → Hp → VK → Prop := fun x xs H Q => ∃ (p p2 : Addr) (kvs more : List (Key × V)), x = .ref p ∧ xs = [.ref p2] ∧ H p = some (.dK kvs) ∧ H p2 = some (.dK more) ∧ p ≠ p2 ∧ kvs.length + more.length ≤ sizeLine ∧ Q .non (L2.upd H p (.dK (mergeK kvs more)))
theorem mt_update : MtM X "dict.update" rUpdate := by
  intro pins s σ H x xs v us Q I rx rs h
  obtain ⟨p, p2, kvs, more, rfl, rfl, h1, h2, hne, hl, q⟩ := h
  cases (show v = Value.ref p from rx)
  obtain ⟨u, eu, ru⟩ := vals1 rs
  subst eu
  cases (show u = Value.ref p2 from ru)
  obtain ⟨z1, hd1, vs1, rel1, dd1⟩ := dk_of I.hok h1
  obtain ⟨z2, hd2, vs2, rel2, dd2⟩ := dk_of I.hok h2
  refine call_meetsIn PySem.F.slot_dict_update dd1.typeIs PySem.F.entry_dict_update (PySem.F.args_dict_update_2 _ _) (meets_dict_update (mixKind X.prog X.w) p p2 hne hd2)
    ⟨vs1, vs2, dd1, dd2, (by rw [← rel1.length, ← rel2.length]; exact hl), fun h' hm _ hs => ?_⟩
  have he : ∃ q, h'.get? p = some q := let ⟨q, _, _, hq, _⟩ := hm; ⟨q, hq⟩
  have hz : (mergeK kvs more).length ≤ sizeLine := Nat.le_trans (length_mergeK more kvs) hl
  exact ⟨.non, _, d_write I (by rw [h1]; exact True.intro) hs he (dk_new hz hd1 (rel2.merge rel1) hm), rfl, q⟩
theorem s_upd (hw : ∀ i ∈ io.slot?, i ∈ ws) (ho : PE X o (tE c W (ev R io))) (ha : PE X a (tE c W (ev R ia))) (hpo : plainE o = true) (hpa : plainE a = true) (hline : (apos.endLine == cpos.line) = true) : PS X (.Expr (.Call (.Attribute o "update" apos) [a] [] cpos) pos) (tS c W ws (exec R n (.mut1 "update" io ia))) := by
  refine (ps_expr (pe_bm PySem.F.plainAttrs_dict PySem.F.slot_dict_update PySem.F.type_dict_update mt_update ho (pa1 hpa ha) (plain_base hpo _ _ _) (few1 hpa) hline (plain_star hpa [] X.env) any0) rfl).weak fun D σ H q => ?_
  obtain ⟨S, e, s, rfl, Rr, p⟩ := q
  refine ⟨S, e, s, rfl, Rr, PostS.bindE Rr.toRlS p fun x e1 s1 S1 v q1 R1 st1 rp1 p1 => ?_⟩
  unfold mut1K at p1
  split at p1
  · rename_i hk
    have hdk : ∃ (pv : Addr) (kvs : List (OI.D × OI.D)) (vs : List V), v = .ref pv ∧ S1.H pv = some (dHO c pv false (kvs.map (·.1)) vs) := by
      have r := bw_view R1.toRlS rp1.1
      generalize (bw x.1 x.2 s1).1 = mm at r hk
      unfold kindOk at hk
      rw [if_pos rfl] at hk
      split at hk
      · rename_i kvs hx
        obtain ⟨p, vs, e1, h1, _⟩ := dic_of hx r
        exact ⟨p, kvs, vs, e1, h1⟩
      · cases hk
    obtain ⟨pv, kvs0, vs0, rfl, hpv⟩ := hdk
    refine ⟨.inr (.inr (.inl ⟨rfl, .inl ⟨_, hpv⟩⟩)), ?_⟩
    obtain ⟨S1', pd, R1', hH, ste⟩ := pend2 R1 rp1
    rw [← hH]
    refine valD_from R1' R1.toRlS ste p1 fun S2 e2 s2 d y R2 st2 rd p2 => ?_
    obtain ⟨a2, m, m', ev, how, hrep, hm', hnx⟩ := at_ok R1 rp1 pd st2 R2 p2 (mut1_d d) hw
    cases ev
    cases m with
    | val d' => rw [mut1_d d d'] at hm'; cases hm'
    | ol xs => cases d <;> cases hm'
    | od t kvs =>
      cases t with
      | true => cases d <;> cases hm'
      | false =>
        cases d with
        | dic t2 more =>
          cases t2 with
          | true => cases hm'
          | false =>
            have hm' : (if kvs.length + more.length ≤ LIM then some (M.od false (dmerge kvs more)) else none) = some m' := hm'
            split at hm'
            · rename_i hl
              cases hm'
              obtain ⟨p', vs, ev, h1, h2⟩ := hrep
              cases ev
              obtain ⟨p2, ws2, rfl, h3, h5, h4⟩ := rd
              obtain ⟨vs', m1, m2⟩ := kmerge h2 h4
              have hne : pv ≠ p2 := fun z => how (by rw [z]; exact h5)
              have l1 := RepKs.len2 h2
              have l2 := RepKs.len2 h4
              refine ⟨pv, p2, _, _, rfl, rfl, h1, h3, hne, by rw [l1, l2]; exact lim_le hl, ?_⟩
              have := hnx (.dK (mergeK (kpairs kvs vs) (kpairs more ws2))) (HLo.dK (by
                have := length_mergeK (kpairs more ws2) (kpairs kvs vs)
                rw [l1, l2] at this
                exact Nat.le_trans this hl)) fun S' pl hH ho f => ⟨pv, vs', rfl, by rw [hH, ← m2]; rfl, ho, m1.mono f⟩
              exact this
            · cases hm'
        | _ => cases hm'
  · exact p1.elim
end
end OI

/-! OIv: whether a text of mine is the text of the row: expressions. -/
namespace OI
open PySem PySem.Spec PyProof.Rows L2

/-- what a text has: defs, built-ins, methods, classes to be made, fields, exceptions, constants -/
structure Tab where
  fns : List (String × Nat)
  blts : List String
  mths : List (String × String × Nat) := []
  news : List (String × Nat) := []
  flds : List String := []
  exs : List String := []
  glbs : List (String × D) := []
/-- where code stands: the slots' names, the scope, what it may use; hot: in an except suite -/
structure Ck where
  N : List Str
  sc : Scope
  T : Tab
  hot : Bool := false
structure CkOk (k : Ck) (X : Cx) (c : Cn) (R : Runs) : Prop where
  N : X.N = k.N
  nd : k.N.Nodup
  sc : X.env.scope = k.sc
  K : X.K = c.K
  calm : k.hot = false → X.calm = true
  un : X.A.units + 65 < cLine
  fn : k.hot = false → ∀ f np, (f, np) ∈ k.T.fns → ∃ j, FnI X c R j f np ∧ Room j X.A
  mt : k.hot = false → ∀ C m np, (C, m, np) ∈ k.T.mths → ∃ j, MtI X c R j C m np ∧ Room j X.A
  nw : k.hot = false → ∀ C np, (C, np) ∈ k.T.news → ∃ j, NwI X c R j C np ∧ Room (j + 1) X.A
  blt : ∀ x ∈ k.T.blts, X.mg (Str.ofString x) = none
  fld : ∀ f ∈ k.T.flds, ∀ kk, Cls X.K (c.icl kk) ∧ NoAttr X.K (c.icl kk) (Str.ofString f)
  ext : ExTab X c k.T.exs
  glb : ∀ x d, (x, d) ∈ k.T.glbs → GlobOk c X.mg x d
  hotE : HotE X c k.T.exs
  ex0 : k.hot = false → c.exn = none

def visC (sc : Scope) (x : Str) : Bool := match sc.names.lookup x with
  | some .local => true
  | some .cell => true
  | some .free => true
  | _ => false
def locC (sc : Scope) (x : Str) : Bool := match sc.names.lookup x with
  | some .local => true
  | some .cell => true
  | _ => false
def glC (sc : Scope) (x : Str) : Bool := match sc.names.lookup x with
  | some .globalImplicit => true
  | _ => false
theorem visC_ok {sc : Scope} {x : Str} (h : visC sc x = true) : Vis sc x := by
  unfold visC at h
  split at h
  · exact .inl (by assumption)
  · exact .inr (.inl (by assumption))
  · exact .inr (.inr (by assumption))
  · cases h
theorem locC_ok {sc : Scope} {x : Str} (h : locC sc x = true) : Loc sc x := by
  unfold locC at h
  split at h
  · exact .inl (by assumption)
  · exact .inr (by assumption)
  · cases h
def plainName (x : Str) : Bool := !(x == ("__debug__" : Str)) && !(x == ("__classdict__" : Str)) && !(x == ("__name__" : Str))
theorem plainName_ok {x : Str} (h : plainName x = true) : (x == ("__debug__" : Str)) = false ∧ (x == ("__classdict__" : Str)) = false ∧ x ≠ "__name__" := by
  unfold plainName at h
  simp only [Bool.and_eq_true, Bool.not_eq_true'] at h
  exact ⟨h.1.1, h.1.2, fun e => by have := h.2; rw [e] at this; simp at this⟩
/-- x names the built-in b -/
def bltC (k : Ck) (b : String) (x : Str) : Bool := decide (x = Str.ofString b) && k.T.blts.contains b && glC k.sc x && plainName x
theorem glC_ok {k : Ck} {X : Cx} {c : Cn} {R : Runs} (ok : CkOk k X c R) {x : Str} (h : glC k.sc x = true) : Gl X x := by
  unfold glC at h
  split at h
  · show X.env.scope.names.lookup x = _
    rw [ok.sc]
    assumption
  · cases h
structure BltOk (X : Cx) (b : String) (x : Str) : Prop where
  eq : x = Str.ofString b
  gl : Gl X x
  mg : X.mg x = none
  nn : x ≠ "__name__"
  nd : (x == ("__debug__" : Str)) = false
theorem bltC_ok {k : Ck} {X : Cx} {c : Cn} {R : Runs} (ok : CkOk k X c R) {b : String} {x : Str} (h : bltC k b x = true) : BltOk X b x := by
  unfold bltC at h
  simp only [Bool.and_eq_true, decide_eq_true_eq] at h
  obtain ⟨⟨⟨h1, h2⟩, h3⟩, h4⟩ := h
  have hp := plainName_ok h4
  exact ⟨h1, glC_ok ok h3, by rw [h1]; exact ok.blt b (by simpa using h2), hp.2.2, hp.1⟩
def binC : BOp → Operator → Bool
  | .add, .Add => true
  | .sub, .Sub => true
  | .mul, .Mult => true
  | .fdiv, .FloorDiv => true
  | .mod, .Mod => true
  | .pow, .Pow => true
  | _, _ => false
theorem binC_ok {X : Cx} {c : Cn} (hK : X.K = c.K) {op : BOp} {o : Operator} (h : binC op o = true) : OpR X (binaryOp o) (R2of c (bin op)) := by
  cases op <;> cases o <;> first | (cases h; done) | exact v_add hK | exact v_sub | exact v_mul hK | exact v_fdiv | exact v_mod | exact v_pow
def cmpC : COp → CmpOp → Bool
  | .eq, .Eq => true
  | .ne, .NotEq => true
  | .lt, .Lt => true
  | .le, .LtE => true
  | .gt, .Gt => true
  | .ge, .GtE => true
  | .isin, .In => true
  | .nin, .NotIn => true
  | _, _ => false
theorem cmpC_ok {X : Cx} {c : Cn} (hK : X.K = c.K) (hu : X.A.units + 65 < cLine) {op : COp} {o : CmpOp} (h : cmpC op o = true) : OpR X (compareOp o) (R2b c (cmp op)) := by
  cases op <;> cases o <;> first | (cases h; done) | exact v_eq hK (by omega) | exact v_ne hK (by omega) | exact v_lt | exact v_le | exact v_gt | exact v_ge | exact v_in hK hu | exact v_nin hK hu
/-- the built-in names of types -/
def tyC (k : Ck) (t : Ty) (e : Expr) : Bool := match e with
  | .Name x _ => match t.name? with
    | some n => bltC k n x
    | none => false
  | _ => false
def tysC (k : Ck) : List Ty → List Expr → Bool
  | [], [] => true
  | t :: ts, e :: es => tyC k t e && tysC k ts es
  | _, _ => false
theorem bootTy {t : Ty} {n : String} (h : t.name? = some n) : bootBuiltins (Str.ofString n) = some (.type n) := by
  cases t <;> cases h <;> decide +kernel
theorem tysC_ok {k : Ck} {X : Cx} {c : Cn} {R : Runs} (ok : CkOk k X c R) : ∀ {ts : List Ty} {es : List Expr}, tysC k ts es = true → ∃ ns, TyNames X es ns ∧ ts.mapM Ty.name? = some ns ∧ ns.length = ts.length
  | [], [], _ => ⟨[], .nil, rfl, rfl⟩
  | t :: ts, e :: es, h => by
    unfold tysC at h
    rw [Bool.and_eq_true] at h
    obtain ⟨ns, h1, h2, h3⟩ := tysC_ok ok h.2
    have h0 := h.1
    unfold tyC at h0
    split at h0
    · split at h0
      · rename_i x p _ n hn
        have b := bltC_ok ok h0
        refine ⟨n :: ns, .cons b.gl b.mg (by rw [b.eq]; exact bootTy hn) b.nn b.nd h1, ?_, by rw [List.length_cons, List.length_cons, h3]⟩
        rw [List.mapM_cons, hn, h2]
        rfl
      · cases h0
    · cases h0
  | [], _ :: _, h => by cases h
  | _ :: _, [], h => by cases h
/-- the names of exception classes -/
def clC (k : Ck) (t : Ty) (e : Expr) : Bool := match e with
  | .Name x _ => match t with
    | .own s => decide (x = Str.ofString s) && k.T.exs.contains s && glC k.sc x && plainName x
    | .valueError => bltC k "ValueError" x
    | _ => false
  | _ => false
def clsC (k : Ck) : List Ty → List Expr → Bool
  | [], [] => true
  | t :: ts, e :: es => clC k t e && clsC k ts es
  | _, _ => false
theorem clC_ok {k : Ck} {X : Cx} {c : Cn} {R : Runs} (ok : CkOk k X c R) {t : Ty} {e : Expr} (h : clC k t e = true) : ClName X k.T.exs e t := by
  unfold clC at h
  split at h
  · split at h
    · simp only [Bool.and_eq_true, decide_eq_true_eq] at h
      obtain ⟨⟨⟨rfl, h2⟩, h3⟩, h4⟩ := h
      exact .own (by simpa using h2) (glC_ok ok h3) (plainName_ok h4).1
    · have b := bltC_ok ok h
      have he := b.eq
      have hg := b.gl
      have hm := b.mg
      subst he
      exact .ve hg hm
    · cases h
  · cases h
theorem clsC_ok {k : Ck} {X : Cx} {c : Cn} {R : Runs} (ok : CkOk k X c R) : ∀ {ts : List Ty} {es : List Expr}, clsC k ts es = true → ClNames X k.T.exs es ts
  | [], [], _ => .nil
  | t :: ts, e :: es, h => by
    unfold clsC at h
    rw [Bool.and_eq_true] at h
    exact .cons (clC_ok ok h.1) (clsC_ok ok h.2)
  | [], _ :: _, h => by cases h
  | _ :: _, [], h => by cases h
/-- a target; cok: the cells that may be stored -/
def tg1C (k : Ck) (cok : Str → Bool) (i : Nat) (e : Expr) : Bool := match e with
  | .Name x _ => decide (k.N[i]? = some x) && (match k.sc.names.lookup x with
    | some .local => true
    | some .cell => cok x
    | _ => false)
  | _ => false
def tgsC (k : Ck) (cok : Str → Bool) : List Nat → List Expr → Bool
  | [], [] => true
  | i :: is, e :: es => tg1C k cok i e && tgsC k cok is es
  | _, _ => false
def tgC (k : Ck) (cok : Str → Bool) (t : Tg) (e : Expr) : Bool := match t with
  | .one i => tg1C k cok i e
  | .many is => match e with
    | .Tuple es _ _ => !k.hot && tgsC k cok is es
    | _ => false
theorem tg1C_ok {k : Ck} {X : Cx} {c : Cn} {R : Runs} (ok : CkOk k X c R) {cok : Str → Bool} (hc : ∀ x, cok x = true → X.fn x = true) {i : Nat} {e : Expr} (h : tg1C k cok i e = true) : ∃ x p, e = .Name x p ∧ PG X e (gName i) := by
  unfold tg1C at h
  split at h
  · rename_i x p
    rw [Bool.and_eq_true, decide_eq_true_eq] at h
    refine ⟨x, p, rfl, ?_⟩
    have hN : X.N.Nodup := by rw [ok.N]; exact ok.nd
    have hi : X.N[i]? = some x := by rw [ok.N]; exact h.1
    have h2 := h.2
    split at h2
    · rename_i hl
      rw [← ok.sc] at hl
      exact pg_name hN hi (.inl hl) (.inr hl)
    · rename_i hl
      rw [← ok.sc] at hl
      exact pg_name hN hi (.inr hl) (.inl (hc x h2))
    · cases h2
  · cases h
theorem tgsC_ok {k : Ck} {X : Cx} {c : Cn} {R : Runs} (ok : CkOk k X c R) {cok : Str → Bool} (hc : ∀ x, cok x = true → X.fn x = true) : ∀ {is : List Nat} {es : List Expr}, tgsC k cok is es = true → PGs X es (gNames is) ∧ (assignEach es X.env).length = is.length ∧ (assignEach es X.env).findIdx? (·.1) = none
  | [], [], _ => ⟨pgs_nil, rfl, rfl⟩
  | i :: is, e :: es, h => by
    unfold tgsC at h
    rw [Bool.and_eq_true] at h
    obtain ⟨x, p, rfl, h1⟩ := tg1C_ok ok hc h.1
    obtain ⟨h2, h3, h4⟩ := tgsC_ok ok hc h.2
    refine ⟨pgs_cons h1 h2 rfl, ?_, ?_⟩
    · show (assignEach es X.env).length + 1 = _
      rw [h3, List.length_cons]
    · show List.findIdx? _ ((false, _) :: assignEach es X.env) = none
      rw [List.findIdx?_cons, h4]
      rfl
  | [], _ :: _, h => by cases h
  | _ :: _, [], h => by cases h
theorem tgC_ok {k : Ck} {X : Cx} {c : Cn} {R : Runs} (ok : CkOk k X c R) {cok : Str → Bool} (hc : ∀ x, cok x = true → X.fn x = true) {t : Tg} {e : Expr} (h : tgC k cok t e = true) : PG X e (gT X.K t) := by
  cases t with
  | one i =>
    obtain ⟨x, p, rfl, h1⟩ := tg1C_ok ok hc h
    exact h1
  | many is =>
    unfold tgC at h
    dsimp only at h
    split at h
    · rw [Bool.and_eq_true, Bool.not_eq_true'] at h
      obtain ⟨h1, h2, h3⟩ := tgsC_ok ok hc h.2
      exact pg_tup (n := is.length) (ok.calm h.1) h1 h2 h3
    · cases h

theorem pt_ifE {X : Cx} {z a b : Expr} {tc ta tb : TT} {pos : Pos} (hc : PT X z tc) (ha : PT X a ta) (hb : PT X b tb) : PT X (.IfExp z a b pos) (fun σ H Q => tc σ H fun k H1 => if k = true then ta σ H1 Q else tb σ H1 Q) := by
  refine ⟨fun pins s σ H Q I h => ?_⟩
  refine isTrue_IfExp (thn (hc.run pins s σ H _ I h) fun d s1 ⟨H1, I1, q1⟩ => ?_)
  cases d with
  | true => exact ha.run pins s1 σ H1 Q I1 q1
  | false => exact hb.run pins s1 σ H1 Q I1 q1
theorem tT_end {c : Cn} {W : WX} {fa : OI.Env → Store → Res (M × Pl)} {σ : L2.St} {S : Wd} {e : OI.Env} {s : Store} {Q : Bool → Hp → Prop} (Rr : Rl c S e s σ) (p : PostG c W σ S s ((outM (valM fa e s)).bind fun x e1 s1 => getB x.1 e1 s1) rB Q) : tT c W fa σ S.H Q := by
  refine ⟨S, e, s, rfl, Rr, ?_⟩
  unfold testB
  unfold outM valM at p
  cases h : fa e s with
  | ok x e1 s1 =>
    rw [h] at p
    obtain ⟨m, pl⟩ := x
    cases m with
    | val d => exact p
    | ol xs => cases pl <;> exact p.elim
    | od t kvs => cases pl <;> exact p.elim
  | err k e1 s1 => rw [h] at p; exact p
  | bad => rw [h] at p; exact p
theorem t_ife {X : Cx} {c : Cn} {W : WX} {R : Runs} {z a b : Expr} {iz ia ib : IE} {pos : Pos} (hc : PT X z (tT c W (ev R iz))) (ha : PT X a (tT c W (ev R ia))) (hb : PT X b (tT c W (ev R ib))) : PT X (.IfExp z a b pos) (tT c W (ev R (.ife iz ia ib))) :=
  (pt_ifE hc ha hb).weak fun σ H Q q => by
    obtain ⟨S, e, s, rfl, Rr, p⟩ := q
    have p : PostG c W σ S s (((testB (ev R iz) e s).bind fun k => ifeK k (valM (ev R ia)) (valM (ev R ib))).bind fun x e1 s1 => getB x.1 e1 s1) rB Q := p
    rw [Res.bind_bind] at p
    refine ⟨S, e, s, rfl, Rr, PostG.bind Rr.toRlS p fun k e1 s1 S1 k' q1 R1 st1 rp1 p1 => ?_⟩
    cases rp1
    unfold ifeK at p1
    cases k with
    | true => exact tT_end R1 p1
    | false => exact tT_end R1 p1

def bm1L : List String := ["index", "count", "join", "split"]
def bi1B : List String := ["len", "sum", "max", "min", "sorted"]
def bi1T : List String := ["list", "tuple", "dict", "int", "str"]
mutual
def chkE (k : Ck) : IE → Expr → Bool
  | .var i, e => match e with
    | .Name x _ => decide (k.N[i]? = some x) && visC k.sc x && plainName x
    | _ => false
  | .cst d, e => match e with
    | .Constant (.int j) _ _ => decide (d = .int j)
    | .Constant (.bool j) _ _ => decide (d = .bl j)
    | .Constant (.str j) _ _ => decide (d = .str j)
    | .Constant .none _ _ => decide (d = .non)
    | _ => false
  | .bin op a b, e => match e with
    | .BinOp x o y _ => binC op o && chkE k a x && chkE k b y
    | _ => false
  | .neg a, e => match e with
    | .UnaryOp .USub x _ => chkE k a x
    | _ => false
  | .cmp op a b, e => match e with
    | .Compare x [o] [y] _ => cmpC op o && plainE y && chkE k a x && chkE k b y
    | _ => false
  | .isN n a, e => match e with
    | .Compare x [.Is] [.Constant .none _ _] _ => !n && chkE k a x
    | .Compare x [.IsNot] [.Constant .none _ _] _ => n && chkE k a x
    | _ => false
  | .isB n a b, e => match e with
    | .Compare x [.Is] [.Constant (.bool v) _ _] _ => !n && decide (b = v) && chkE k a x
    | .Compare x [.IsNot] [.Constant (.bool v) _ _] _ => n && decide (b = v) && chkE k a x
    | _ => false
  | .both a b, e => match e with
    | .BoolOp .And [x, y] _ => chkE k a x && chkE k b y
    | .BoolOp .And (x :: y :: z :: r) p => chkE k a x && chkE k b (.BoolOp .And (y :: z :: r) p)
    | _ => false
  | .either a b, e => match e with
    | .BoolOp .Or [x, y] _ => chkE k a x && chkE k b y
    | .BoolOp .Or (x :: y :: z :: r) p => chkE k a x && chkE k b (.BoolOp .Or (y :: z :: r) p)
    | _ => false
  | .nott a, e => match e with
    | .UnaryOp .Not x _ => chkE k a x
    | _ => false
  | .ife c a b, e => match e with
    | .IfExp z x y _ => chkE k c z && chkE k a x && chkE k b y
    | _ => false
  | .tup es, e => match e with
    | .Tuple as _ _ => decide (es.len ≤ 1000) && chkEs k es as
    | _ => false
  | .lst es, e => match e with
    | .List as _ => decide (es.len ≤ 1000) && chkEs k es as
    | _ => false
  | .idx a b, e => match e with
    | .Subscript x y _ => plainE y && chkE k a x && chkE k b y
    | _ => false
  | .slc a lo hi, e => match e with
    | .Subscript x (.Slice l h none _) _ => chkE k a x && chkO k lo l && chkO k hi h
    | _ => false
  | .call f es, e => match e with
    | .Call (.Name x _) (a :: as) [] _ => !k.hot && decide (x = Str.ofString f) && k.T.fns.contains (f, es.len) && glC k.sc x && plainName x && (a :: as).all plainE && chkEs k es (a :: as)
    | _ => false
  | .bi1 f a, e => match e with
    | .Call (.Name x _) [y] [] _ => !k.hot && bltC k f x && (bi1B.contains f || bi1T.contains f) && plainE y && chkE k a y
    | _ => false
  | .bi2 f a b, e => match e with
    | .Call (.Name x _) [y, z] [] _ => !k.hot && bltC k f x && (f == "max" || f == "min") && plainE y && plainE z && chkE k a y && chkE k b z
    | .Call (.Name x _) [y] [⟨some nm, z, _⟩] _ => !k.hot && bltC k "max" x && decide (f = "maxd") && decide (nm = Str.ofString "default") && plainE y && chkE k a y && chkE k b z
    | _ => false
  | .bi3 f a b d, e => match e with
    | .Call (.Name x _) [y, z, w] [] _ => !k.hot && bltC k f x && (f == "max") && plainE y && plainE z && plainE w && chkE k a y && chkE k b z && chkE k d w
    | _ => false
  | .isi a one ts, e => match e with
    | .Call (.Name x _) [y, .Tuple as _ _] [] _ => bltC k "isinstance" x && plainE y && !one && decide (ts ≠ []) && decide (ts.length ≤ 1000) && (tysC k ts as || clsC k ts as) && chkE k a y
    | .Call (.Name x _) [y, .Name n p] [] _ => bltC k "isinstance" x && plainE y && one && (tysC k ts [.Name n p] || clsC k ts [.Name n p]) && chkE k a y
    | _ => false
  | .lc elt t it co own, e => match e with
    | .ListComp x [⟨tg, iter, ifs, 0⟩] scope _ => !k.hot && (t.slots.all fun i => own.contains i) && plainE iter && blkC k.N k.sc scope (own.map fun i => (k.N.getD i ⟨#[]⟩, i)) && chkI k it tg iter
      && tgC { k with sc := relS scope k.sc } (fun x => scope.names.lookup x == some .cell) t tg && chkE { k with sc := relS scope k.sc } elt x && chkC { k with sc := relS scope k.sc } co ifs
    | _ => false
  | .share a, e => plainT e && chkE k a e
  | .glob x d, e => match e with
    | .Name y _ => decide (y = Str.ofString x) && k.T.glbs.contains (x, d) && glC k.sc y && plainName y
    | _ => false
  | .chain op op2 a b d, e => match e with
    | .Compare x [o, o2] [y, z] _ => cmpC op o && cmpC op2 o2 && plainE z && chkE k a x && chkE k b y && chkE k d z
    | _ => false
  | .chain3 op op2 op3 a b d d2, e => match e with
    | .Compare x [o, o2, o3] [y, z, w] _ => cmpC op o && cmpC op2 o2 && cmpC op3 o3 && plainE w && chkE k a x && chkE k b y && chkE k d z && chkE k d2 w
    | _ => false
  | .attr a f, e => match e with
    | .Attribute x fx _ => decide (fx = Str.ofString f) && k.T.flds.contains f && plainE x && chkE k a x
    | _ => false
  | .meth o C m es, e => match e with
    | .Call (.Attribute x fx ap) as [] cp => !k.hot && decide (fx = Str.ofString m) && k.T.mths.contains (C, m, es.len + 1) && plainE x && as.all plainE && decide (as.length < 30) && (ap.endLine == cp.line) && chkE k o x && chkEs k es as
    | _ => false
  | .new C es, e => match e with
    | .Call (.Name x _) as [] _ => !k.hot && decide (x = Str.ofString C) && k.T.news.contains (C, es.len + 1) && glC k.sc x && plainName x && as.all plainE && chkEs k es as
    | _ => false
  | .bm1 m o a, e => match e with
    | .Call (.Attribute x fx ap) [y] [] cp => decide (fx = Str.ofString m) && bm1L.contains m && plainE x && plainE y && (ap.endLine == cp.line) && chkE k o x && chkE k a y
    | _ => false
  | .bm2 m o a b, e => match e with
    | .Call (.Attribute x fx ap) [y, z] [] cp => (m == "get") && decide (fx = Str.ofString m) && plainE x && plainE y && plainE z && (ap.endLine == cp.line) && chkE k o x && chkE k a y && chkE k b z
    | _ => false
  | .dct t ps, e => match e with
    | .Dict keys values _ => !t && decide (ps.len ≤ 15) && chkPs k ps keys values
    | _ => false
  | .lrange a b, e => match e with
    | .Call (.Name x _) [.Call (.Name y _) [z, w] [] _] [] _ => !k.hot && bltC k "list" x && bltC k "range" y && plainE z && plainE w && chkE k a z && chkE k b w
    | _ => false
  | .bad, _ => true
  | _, _ => false
def chkPs (k : Ck) : IPs → List (Option Expr) → List Expr → Bool
  | .nil, ks, vs => ks.isEmpty && vs.isEmpty
  | .cons a b r, ks, vs => match ks with
    | some x :: xs => match vs with
      | y :: ys => chkE k a x && chkE k b y && chkPs k r xs ys
      | [] => false
    | _ => false
def chkEs (k : Ck) : IEs → List Expr → Bool
  | .nil, es => es.isEmpty
  | .cons a r, es => match es with
    | x :: xs => plainE x && chkE k a x && chkEs k r xs
    | [] => false
def chkO (k : Ck) : IO → Option Expr → Bool
  | .no, o => o.isNone
  | .yes a, o => match o with
    | some x => chkE k a x
    | none => false
def chkC (k : Ck) : IO → List Expr → Bool
  | .no, o => o.isEmpty
  | .yes a, o => match o with
    | [x] => chkE k a x
    | _ => false
def chkI (k : Ck) : OI.It → Expr → Expr → Bool
  | .of a, _, e => chkE k a e
  | .rng1 a, _, e => match e with
    | .Call (.Name x _) [y] [] _ => bltC k "range" x && plainE y && chkE k a y
    | _ => false
  | .rng2 a b, _, e => match e with
    | .Call (.Name x _) [y, z] [] _ => bltC k "range" x && plainE y && plainE z && chkE k a y && chkE k b z
    | _ => false
  | .rng3 a b d, _, e => match e with
    | .Call (.Name x _) [y, z, w] [] _ => bltC k "range" x && plainE y && plainE z && plainE w && chkE k a y && chkE k b z && chkE k d w
    | _ => false
  | .zip a b, tg, e => match tg with
    | .Tuple _ _ _ => match e with
      | .Call (.Name x _) [y, z] [] _ => bltC k "zip" x && plainE y && plainE z && chkE k a y && chkE k b z
      | _ => false
    | _ => false
end

/-! ### it is so -/
theorem CkOk.blk {k : Ck} {X : Cx} {c : Cn} {R : Runs} (ok : CkOk k X c R) (hh : k.hot = false) {s : Shared} {H : Hp} {scope : Scope} {cl : List (Str × Addr)} {C : Addr} {fp : List Addr} : CkOk { k with sc := relS scope k.sc } (X.blk s H scope (compEnvC scope cl C X.env) fp) c R where
  N := ok.N
  nd := ok.nd
  sc := by
    show PySem.relabel scope X.env = relS scope k.sc
    rw [← ok.sc]
    rfl
  K := ok.K
  calm := fun h => ok.calm h
  un := ok.un
  fn := fun hh f np h => by
    obtain ⟨j, ⟨hF⟩, hr⟩ := ok.fn hh f np h
    exact ⟨j, ⟨hF⟩, hr⟩
  mt := fun hh C m np h => by
    obtain ⟨j, ⟨h1, hF⟩, hr⟩ := ok.mt hh C m np h
    exact ⟨j, ⟨h1, hF⟩, hr⟩
  nw := fun hh C np h => by
    obtain ⟨j, ⟨h1, hF⟩, hr⟩ := ok.nw hh C np h
    exact ⟨j, ⟨h1, hF⟩, hr⟩
  blt := ok.blt
  fld := ok.fld
  ext := ⟨fun k hk => let e := ok.ext.ex k hk; ⟨e.mg, e.kp, e.xc, e.sb, e.ve, e.ty, e.is⟩, ok.ext.sub⟩
  glb := ok.glb
  hotE := fun a k h => by rw [ok.ex0 hh] at h; cases h
  ex0 := ok.ex0
theorem es_len {k : Ck} : ∀ {es : IEs} {as : List Expr}, chkEs k es as = true → as.all plainE = true
  | .nil, as, h => by
    unfold chkEs at h
    rw [List.isEmpty_iff] at h
    rw [h]
    rfl
  | .cons a r, as, h => by
    unfold chkEs at h
    split at h
    · rw [Bool.and_eq_true, Bool.and_eq_true] at h
      rw [List.all_cons, h.1.1, es_len h.2]
      rfl
    · cases h
theorem es_nil {k : Ck} {es : IEs} (h : chkEs k es [] = true) : es = .nil := by
  cases es with
  | nil => rfl
  | cons a r => unfold chkEs at h; cases h
theorem ps_len {k : Ck} : ∀ {ps : IPs} {ks : List (Option Expr)} {vs : List Expr}, chkPs k ps ks vs = true → ks.all (·.isSome) = true ∧ ks.length = vs.length ∧ ks.length = ps.len ∧ (ps.len ≠ 0 → ks ≠ [])
  | .nil, ks, vs, h => by
    unfold chkPs at h
    rw [Bool.and_eq_true, List.isEmpty_iff, List.isEmpty_iff] at h
    obtain ⟨rfl, rfl⟩ := h
    exact ⟨rfl, rfl, rfl, fun z => absurd rfl z⟩
  | .cons a b r, ks, vs, h => by
    unfold chkPs at h
    split at h
    · split at h
      · rw [Bool.and_eq_true] at h
        obtain ⟨h1, h2, h3, _⟩ := ps_len h.2
        exact ⟨by rw [List.all_cons, h1]; rfl, by rw [List.length_cons, List.length_cons, h2], by rw [List.length_cons, h3]; rfl, fun _ z => by cases z⟩
      · cases h
    · cases h
section
variable {c : Cn} {R : Runs}
theorem bi1_ok {k : Ck} {X : Cx} {W : WX} (ok : CkOk k X c R) (hh : k.hot = false) {f : String} {x : Str} {p pos : Pos} {y : Expr} {ia : IE} (hb : bltC k f x = true) (hf : (bi1B.contains f || bi1T.contains f) = true) (hp : plainE y = true) (ha : PE X y (tE c W (ev R ia))) : PE X (.Call (.Name x p) [y] [] pos) (tE c W (ev R (.bi1 f ia))) := by
  have b := bltC_ok ok hb
  have h : f ∈ bi1B ∨ f ∈ bi1T := by
    rw [Bool.or_eq_true] at hf
    exact hf.imp (fun h => by simpa using h) (fun h => by simpa using h)
  have B : ∀ (g : String), f = g → CallR X (.builtin g) (R1c c (bi1 g)) → bootBuiltins (Str.ofString g) = some (.builtin g) → PE X (.Call (.Name x p) [y] [] pos) (tE c W (ev R (.bi1 f ia))) := fun g e hc hv => by
    subst e
    exact s_bi1B b.gl b.mg b.nn b.nd hc (by rw [b.eq]; exact hv) hp ha
  have T : ∀ (g : String), f = g → CallR X (.type g) (R1c c (bi1 g)) → bootBuiltins (Str.ofString g) = some (.type g) → PE X (.Call (.Name x p) [y] [] pos) (tE c W (ev R (.bi1 f ia))) := fun g e hc hv => by
    subst e
    exact s_bi1T b.gl b.mg b.nn b.nd hc (by rw [b.eq]; exact hv) hp ha
  rcases h with h | h
  · unfold bi1B at h
    simp only [List.mem_cons, List.not_mem_nil, or_false] at h
    rcases h with h | h | h | h | h
    · exact B _ h (b_len ok.K) (by decide +kernel)
    · exact B _ h (b_sum ok.K (ok.calm hh)) (by decide +kernel)
    · exact B _ h (b_max1 ok.K (ok.calm hh)) (by decide +kernel)
    · exact B _ h (b_min1 ok.K (ok.calm hh)) (by decide +kernel)
    · exact B _ h (b_sorted ok.K) (by decide +kernel)
  · unfold bi1T at h
    simp only [List.mem_cons, List.not_mem_nil, or_false] at h
    rcases h with h | h | h | h | h
    · exact T _ h (b_list ok.K) (by decide +kernel)
    · exact T _ h (b_tuple ok.K) (by decide +kernel)
    · exact T _ h b_dict (by decide +kernel)
    · exact T _ h b_int (by decide +kernel)
    · exact T _ h b_str (by decide +kernel)
mutual
theorem ck_e : ∀ (i : IE) {k : Ck} {X : Cx} {W : WX} {e : Expr}, CkOk k X c R → Takes X W → chkE k i e = true → SE X c W e (ev R i)
  | .var i, k, X, W, e, ok, tk, h => by
    unfold chkE at h
    split at h
    · simp only [Bool.and_eq_true, decide_eq_true_eq] at h
      obtain ⟨⟨h1, h2⟩, h3⟩ := h
      have hp := plainName_ok h3
      exact se_of rfl (s_var (by rw [ok.N]; exact h1) (by rw [ok.sc]; exact visC_ok h2) hp.1 hp.2.1)
    · cases h
  | .cst d, k, X, W, e, ok, tk, h => by
    unfold chkE at h
    split at h
    · rw [decide_eq_true_eq] at h
      subst h
      exact se_of rfl s_cst_int
    · rw [decide_eq_true_eq] at h
      subst h
      exact se_of rfl s_cst_bl
    · rw [decide_eq_true_eq] at h
      subst h
      exact se_of rfl s_cst_str
    · rw [decide_eq_true_eq] at h
      subst h
      exact se_of rfl s_cst_non
    · cases h
  | .bin op a b, k, X, W, e, ok, tk, h => by
    unfold chkE at h
    split at h
    · simp only [Bool.and_eq_true] at h
      exact se_of rfl (s_bin (binC_ok ok.K h.1.1) (ck_e a ok tk h.1.2).pe (ck_e b ok tk h.2).pe)
    · cases h
  | .neg a, k, X, W, e, ok, tk, h => by
    unfold chkE at h
    split at h
    · exact se_of rfl (s_neg (ck_e a ok tk h).pe)
    · cases h
  | .cmp op a b, k, X, W, e, ok, tk, h => by
    unfold chkE at h
    split at h
    · simp only [Bool.and_eq_true] at h
      have ho := cmpC_ok (X := X) (c := c) ok.K ok.un h.1.1.1
      have ha := (ck_e a ok tk h.1.2).pe
      have hb := (ck_e b ok tk h.2).pe
      exact ⟨s_cmp ho h.1.1.2 ha hb, t_cmp ho h.1.1.2 ha hb, fun op vs p e => by cases e⟩
    · cases h
  | .isN n a, k, X, W, e, ok, tk, h => by
    unfold chkE at h
    split at h
    · simp only [Bool.and_eq_true, Bool.not_eq_true'] at h
      obtain ⟨rfl, h⟩ := h
      have ha := (ck_e a ok tk h).pe
      exact ⟨s_isN ha, t_isN ha, fun op vs p e => by cases e⟩
    · simp only [Bool.and_eq_true] at h
      obtain ⟨rfl, h⟩ := h
      have ha := (ck_e a ok tk h).pe
      exact ⟨s_notN ha, t_notN ha, fun op vs p e => by cases e⟩
    · cases h
  | .isB n a b, k, X, W, e, ok, tk, h => by
    unfold chkE at h
    split at h
    · simp only [Bool.and_eq_true, Bool.not_eq_true', decide_eq_true_eq] at h
      obtain ⟨⟨rfl, rfl⟩, h⟩ := h
      have ha := (ck_e a ok tk h).pe
      exact ⟨s_isB ha, t_isB ha, fun op vs p e => by cases e⟩
    · simp only [Bool.and_eq_true, decide_eq_true_eq] at h
      obtain ⟨⟨rfl, rfl⟩, h⟩ := h
      have ha := (ck_e a ok tk h).pe
      exact ⟨s_notB ha, t_notB ha, fun op vs p e => by cases e⟩
    · cases h
  | .both a b, k, X, W, e, ok, tk, h => by
    unfold chkE at h
    split at h
    · rw [Bool.and_eq_true] at h
      exact s_both (ck_e a ok tk h.1) (and_last (ck_e b ok tk h.2))
    · rw [Bool.and_eq_true] at h
      exact s_both (ck_e a ok tk h.1) (ck_e b ok tk h.2)
    · cases h
  | .either a b, k, X, W, e, ok, tk, h => by
    unfold chkE at h
    split at h
    · rw [Bool.and_eq_true] at h
      exact s_either (ck_e a ok tk h.1) (or_last (ck_e b ok tk h.2))
    · rw [Bool.and_eq_true] at h
      exact s_either (ck_e a ok tk h.1) (ck_e b ok tk h.2)
    · cases h
  | .nott a, k, X, W, e, ok, tk, h => by
    unfold chkE at h
    split at h
    · exact s_not (ck_e a ok tk h)
    · cases h
  | .ife z a b, k, X, W, e, ok, tk, h => by
    unfold chkE at h
    split at h
    · simp only [Bool.and_eq_true] at h
      exact ⟨s_ife (ck_e z ok tk h.1.1).pt (ck_e a ok tk h.1.2).pe (ck_e b ok tk h.2).pe, t_ife (ck_e z ok tk h.1.1).pt (ck_e a ok tk h.1.2).pt (ck_e b ok tk h.2).pt, fun op vs p e => by cases e⟩
    · cases h
  | .tup es, k, X, W, e, ok, tk, h => by
    unfold chkE at h
    split at h
    · simp only [Bool.and_eq_true, decide_eq_true_eq] at h
      exact se_of rfl (s_tup (by omega) (ck_es es ok tk h.2))
    · cases h
  | .lst es, k, X, W, e, ok, tk, h => by
    unfold chkE at h
    split at h
    · simp only [Bool.and_eq_true, decide_eq_true_eq] at h
      exact se_of rfl (s_lst (by omega) (ck_es es ok tk h.2))
    · cases h
  | .idx a b, k, X, W, e, ok, tk, h => by
    unfold chkE at h
    split at h
    · simp only [Bool.and_eq_true] at h
      exact se_of rfl (s_idx ok.K ok.un h.1.1 (ck_e a ok tk h.1.2).pe (ck_e b ok tk h.2).pe)
    · cases h
  | .slc a lo hi, k, X, W, e, ok, tk, h => by
    unfold chkE at h
    split at h
    · simp only [Bool.and_eq_true] at h
      exact se_of rfl (s_slc ok.K (ck_e a ok tk h.1.1).pe (ck_o lo ok tk h.1.2) (ck_o hi ok tk h.2))
    · cases h
  | .call f es, k, X, W, e, ok, tk, h => by
    unfold chkE at h
    split at h
    · simp only [Bool.and_eq_true, decide_eq_true_eq, Bool.not_eq_true'] at h
      obtain ⟨⟨⟨⟨⟨⟨h0, h1⟩, h2⟩, h3⟩, h4⟩, h5⟩, h6⟩ := h
      obtain ⟨j, F, hr⟩ := ok.fn h0 f es.len (by simpa using h2)
      have hp := plainName_ok h4
      have hg := glC_ok ok h3
      subst h1
      exact se_of rfl (s_call F hr hg tk rfl (ck_es es ok tk h6) hp.1 h5)
    · cases h
  | .bi1 f a, k, X, W, e, ok, tk, h => by
    unfold chkE at h
    split at h
    · simp only [Bool.and_eq_true, Bool.not_eq_true'] at h
      exact se_of rfl (bi1_ok ok h.1.1.1.1 h.1.1.1.2 h.1.1.2 h.1.2 (ck_e a ok tk h.2).pe)
    · cases h
  | .bi2 f a b, k, X, W, e, ok, tk, h => by
    unfold chkE at h
    split at h
    · simp only [Bool.and_eq_true, Bool.or_eq_true, beq_iff_eq, Bool.not_eq_true'] at h
      obtain ⟨⟨⟨⟨⟨⟨h0, h1⟩, h2⟩, h3⟩, h4⟩, h5⟩, h6⟩ := h
      have b' := bltC_ok ok h1
      rcases h2 with h2 | h2
      · subst h2
        exact se_of rfl (s_bi2B b'.gl b'.mg b'.nn b'.nd (b_max2 (ok.calm h0)) (by rw [b'.eq]; decide +kernel) h3 (ck_e a ok tk h5).pe h4 (ck_e b ok tk h6).pe)
      · subst h2
        exact se_of rfl (s_bi2B b'.gl b'.mg b'.nn b'.nd (b_min2 (ok.calm h0)) (by rw [b'.eq]; decide +kernel) h3 (ck_e a ok tk h5).pe h4 (ck_e b ok tk h6).pe)
    · simp only [Bool.and_eq_true, decide_eq_true_eq, Bool.not_eq_true'] at h
      obtain ⟨⟨⟨⟨⟨⟨h0, h1⟩, h2⟩, h3⟩, h4⟩, h5⟩, h6⟩ := h
      have b' := bltC_ok ok h1
      subst h2
      subst h3
      exact se_of rfl (s_maxd b'.gl b'.mg b'.nn b'.nd ok.K (ok.calm h0) (by rw [b'.eq]; decide +kernel) h4 (ck_e a ok tk h5).pe (ck_e b ok tk h6).pe)
    · cases h
  | .bi3 f a b d, k, X, W, e, ok, tk, h => by
    unfold chkE at h
    split at h
    · simp only [Bool.and_eq_true, beq_iff_eq, Bool.not_eq_true'] at h
      obtain ⟨⟨⟨⟨⟨⟨⟨⟨h0, h1⟩, h2⟩, h3⟩, h4⟩, h5⟩, h6⟩, h7⟩, h8⟩ := h
      have b' := bltC_ok ok h1
      subst h2
      exact se_of rfl (s_bi3B b'.gl b'.mg b'.nn b'.nd (b_max3 (ok.calm h0)) (by rw [b'.eq]; decide +kernel) h3 (ck_e a ok tk h6).pe h4 (ck_e b ok tk h7).pe h5 (ck_e d ok tk h8).pe)
    · cases h
  | .isi a one ts, k, X, W, e, ok, tk, h => by
    unfold chkE at h
    split at h
    · simp only [Bool.and_eq_true, decide_eq_true_eq, Bool.not_eq_true', Bool.or_eq_true] at h
      obtain ⟨⟨⟨⟨⟨⟨h1, h2⟩, h3⟩, h4⟩, h5⟩, h6⟩, h7⟩ := h
      have b' := bltC_ok ok h1
      have he := b'.eq
      have hg := b'.gl
      have hm := b'.mg
      subst he h3
      rcases h6 with h6 | h6
      · obtain ⟨ns, t1, t2, t3⟩ := tysC_ok ok h6
        exact se_of rfl (s_isiT ok.K hg hm t1 t2 (fun z => by subst z; exact h4 (List.length_eq_zero_iff.mp t3.symm)) (by omega) h2 (ck_e a ok tk h7).pe)
      · cases ts with
        | nil => exact absurd rfl h4
        | cons t0 ts => exact se_of rfl (s_isiET ok.ext ok.hotE hg hm (clsC_ok ok h6) h5 h2 (ck_e a ok tk h7).pe)
    · simp only [Bool.and_eq_true, Bool.or_eq_true] at h
      obtain ⟨⟨⟨⟨h1, h2⟩, h3⟩, h4⟩, h7⟩ := h
      have b' := bltC_ok ok h1
      have he := b'.eq
      have hg := b'.gl
      have hm := b'.mg
      subst he h3
      rcases h4 with h4 | h4
      · cases ts with
        | nil => cases h4
        | cons t ts =>
          cases ts with
          | cons t2 ts => unfold tysC at h4; unfold tysC at h4; rw [Bool.and_false] at h4; cases h4
          | nil =>
            unfold tysC at h4
            unfold tysC at h4
            rw [Bool.and_true] at h4
            unfold tyC at h4
            dsimp only at h4
            split at h4
            · rename_i n hn
              have b2 := bltC_ok ok h4
              exact se_of rfl (s_isi1 ok.K hg hm b2.gl b2.mg (by rw [b2.eq]; exact bootTy hn) b2.nn b2.nd hn h2 (ck_e a ok tk h7).pe)
            · cases h4
      · cases ts with
        | nil => cases h4
        | cons t ts =>
          cases ts with
          | cons t2 ts => unfold clsC at h4; unfold clsC at h4; rw [Bool.and_false] at h4; cases h4
          | nil =>
            unfold clsC at h4
            unfold clsC at h4
            rw [Bool.and_true] at h4
            exact se_of rfl (s_isiE1 ok.ext ok.hotE hg hm (clC_ok ok h4) h2 (ck_e a ok tk h7).pe)
    · cases h
  | .lc elt t it co own, k, X, W, e, ok, tk, h => by
    unfold chkE at h
    split at h
    · rename_i x tg iter ifs scope pos
      simp only [Bool.and_eq_true, Bool.not_eq_true'] at h
      obtain ⟨⟨⟨⟨⟨⟨⟨h0, h1⟩, h2⟩, h3⟩, h4⟩, h5⟩, h6⟩, h7⟩ := h
      have ho : ∀ i ∈ t.slots, i ∈ own := fun i hi => by
        rw [List.all_eq_true] at h1
        simpa using h1 i hi
      have hown : (own.map fun i => (k.N.getD i ⟨#[]⟩, i)).map (·.2) = own := by
        rw [List.map_map]
        exact List.map_id' own
      have hb : BlkOk X.N X.env.scope scope (own.map fun i => (k.N.getD i ⟨#[]⟩, i)) := by
        rw [ok.N, ok.sc]
        exact blkOk_by h3
      have pe := pe_lc (X := X) (pos := pos) (g := gT X.K t) (wi := tI c W (evi R it)) (tt := tC c WN (evc R co)) (te := tE c WN (ev R elt)) (ok.calm h0) (by rw [ok.N]; exact ok.nd) (ck_i it ok tk h4 (W := W)) hb (fun s H C cl fp => tgC_ok (ok.blk h0) (fun y hy => hy) h5) (fun s H C cl fp => ck_c co (ok.blk h0) takes0 h7) (fun s H C cl fp => (ck_e elt (ok.blk h0) takes0 h6).pe) (fun v => plain_fold h2 X.env v)
      rw [hown] at pe
      exact se_of rfl (pe.weak fun σ H Q q => lc_weak ok.K ho q)
    · cases h
  | .share a, k, X, W, e, ok, tk, h => by
    unfold chkE at h
    rw [Bool.and_eq_true] at h
    exact se_of h.1 (s_share (ck_e a ok tk h.2).pe)
  | .bad, k, X, W, e, ok, tk, h => ⟨⟨fun pins s σ H Q I q => by obtain ⟨_, _, _, _, _, p⟩ := q; exact p.elim⟩, ⟨fun pins s σ H Q I q => by obtain ⟨_, _, _, _, _, p⟩ := q; exact p.elim⟩, fun op vs pos he => ⟨fun wh pins s σ H Q I q => by obtain ⟨_, _, _, _, _, p⟩ := q; exact p.elim⟩⟩
  | .glob x d, k, X, W, e, ok, tk, h => by
    unfold chkE at h
    split at h
    · simp only [Bool.and_eq_true, decide_eq_true_eq] at h
      obtain ⟨⟨⟨rfl, h2⟩, h3⟩, h4⟩ := h
      exact se_of rfl (s_glob (glC_ok ok h3) (ok.glb x d (by simpa using h2)) (plainName_ok h4).1)
    · cases h
  | .chain op op2 a b d, k, X, W, e, ok, tk, h => by
    unfold chkE at h
    split at h
    · simp only [Bool.and_eq_true] at h
      obtain ⟨⟨⟨⟨⟨h1, h2⟩, h3⟩, h4⟩, h5⟩, h6⟩ := h
      exact s_chain (cmpC_ok ok.K ok.un h1) (cmpC_ok ok.K ok.un h2) h3 (ck_e a ok tk h4).pe (ck_e b ok tk h5).pe (ck_e d ok tk h6).pe
    · cases h
  | .chain3 op op2 op3 a b d d2, k, X, W, e, ok, tk, h => by
    unfold chkE at h
    split at h
    · simp only [Bool.and_eq_true] at h
      obtain ⟨⟨⟨⟨⟨⟨⟨h1, h2⟩, h3⟩, h4⟩, h5⟩, h6⟩, h7⟩, h8⟩ := h
      exact s_chain3 (cmpC_ok ok.K ok.un h1) (cmpC_ok ok.K ok.un h2) (cmpC_ok ok.K ok.un h3) h4 (ck_e a ok tk h5).pe (ck_e b ok tk h6).pe (ck_e d ok tk h7).pe (ck_e d2 ok tk h8).pe
    · cases h
  | .attr a f, k, X, W, e, ok, tk, h => by
    unfold chkE at h
    split at h
    · simp only [Bool.and_eq_true, decide_eq_true_eq] at h
      obtain ⟨⟨⟨rfl, h2⟩, h3⟩, h4⟩ := h
      have hf := ok.fld f (by simpa using h2)
      exact se_of rfl (s_attr ok.K (fun kk => (hf kk).1) (fun kk => (hf kk).2) h3 (ck_e a ok tk h4).pe)
    · cases h
  | .meth o C m es, k, X, W, e, ok, tk, h => by
    unfold chkE at h
    split at h
    · rename_i as _ _
      simp only [Bool.and_eq_true, decide_eq_true_eq, Bool.not_eq_true'] at h
      obtain ⟨⟨⟨⟨⟨⟨⟨⟨h0, h1⟩, h2⟩, h3⟩, h4⟩, h5⟩, h6⟩, h7⟩, h8⟩ := h
      obtain ⟨j, F, hr⟩ := ok.mt h0 C m _ (by simpa using h2)
      subst h1
      exact se_of rfl (s_meth F hr tk rfl h3 h4 h5 h6 (ck_e o ok tk h7).pe (ck_es es ok tk h8) (fun z => es_nil (by rw [← z]; exact h8)))
    · cases h
  | .new C es, k, X, W, e, ok, tk, h => by
    unfold chkE at h
    split at h
    · simp only [Bool.and_eq_true, decide_eq_true_eq, Bool.not_eq_true'] at h
      obtain ⟨⟨⟨⟨⟨⟨h0, h1⟩, h2⟩, h3⟩, h4⟩, h5⟩, h6⟩ := h
      obtain ⟨j, F, hr⟩ := ok.nw h0 C _ (by simpa using h2)
      have hg := glC_ok ok h3
      have hd := (plainName_ok h4).1
      subst h1
      exact se_of rfl (s_new F hr hg tk rfl hd h5 (ck_es es ok tk h6) (fun z => es_nil (by rw [← z]; exact h6)))
    · cases h
  | .bm1 m o a, k, X, W, e, ok, tk, h => by
    unfold chkE at h
    split at h
    · simp only [Bool.and_eq_true, decide_eq_true_eq] at h
      obtain ⟨⟨⟨⟨⟨⟨rfl, h2⟩, h3⟩, h4⟩, h5⟩, h6⟩, h7⟩ := h
      have ho := (ck_e o ok tk h6).pe
      have ha := (ck_e a ok tk h7).pe
      have hm : m ∈ bm1L := by simpa using h2
      unfold bm1L at hm
      simp only [List.mem_cons, List.not_mem_nil, or_false] at hm
      rcases hm with rfl | rfl | rfl | rfl
      · exact se_of rfl (s_bmL ok.K PySem.F.slot_list_index PySem.F.type_list_index (m_index ok.K) (.inl rfl) ho ha h3 h4 h5)
      · exact se_of rfl (s_bmL ok.K PySem.F.slot_list_count PySem.F.type_list_count (m_count ok.K) (.inr rfl) ho ha h3 h4 h5)
      · exact se_of rfl (s_bmS PySem.F.slot_str_join PySem.F.type_str_join (m_join ok.K) (by decide) ho ha h3 h4 h5)
      · exact se_of rfl (s_bmS PySem.F.slot_str_split PySem.F.type_str_split m_split (by decide) ho ha h3 h4 h5)
    · cases h
  | .bm2 m o a b, k, X, W, e, ok, tk, h => by
    unfold chkE at h
    split at h
    · simp only [Bool.and_eq_true, decide_eq_true_eq, beq_iff_eq] at h
      obtain ⟨⟨⟨⟨⟨⟨⟨⟨rfl, rfl⟩, h2⟩, h3⟩, h4⟩, h5⟩, h6⟩, h7⟩, h8⟩ := h
      exact se_of rfl (s_get (by have := ok.un; omega) (ck_e o ok tk h6).pe (ck_e a ok tk h7).pe (ck_e b ok tk h8).pe h2 h3 h4 (by simpa using h5))
    · cases h
  | .dct t ps, k, X, W, e, ok, tk, h => by
    unfold chkE at h
    split at h
    · simp only [Bool.and_eq_true, decide_eq_true_eq, Bool.not_eq_true'] at h
      obtain ⟨⟨rfl, h1⟩, h2⟩ := h
      cases ps with
      | nil =>
        unfold chkPs at h2
        rw [Bool.and_eq_true, List.isEmpty_iff, List.isEmpty_iff] at h2
        obtain ⟨rfl, rfl⟩ := h2
        exact se_of rfl s_dct0
      | cons a b r =>
        obtain ⟨g1, g2, g3, g4⟩ := ps_len h2
        exact se_of rfl (s_dct (ck_ps (.cons a b r) ok tk h2) g1 g2 (g4 (by simp [IPs.len])) (by omega) h1)
    · cases h
  | .lrange a b, k, X, W, e, ok, tk, h => by
    unfold chkE at h
    split at h
    · simp only [Bool.and_eq_true, Bool.not_eq_true'] at h
      obtain ⟨⟨⟨⟨⟨⟨h0, h1⟩, h2⟩, h3⟩, h4⟩, h5⟩, h6⟩ := h
      have b1 := bltC_ok ok h1
      have b2 := bltC_ok ok h2
      have e1 := b1.eq
      have g1 := b1.gl
      have m1 := b1.mg
      have e2 := b2.eq
      have g2 := b2.gl
      have m2 := b2.mg
      subst e1 e2
      exact se_of rfl (s_lrange (ok.calm h0) g1 m1 g2 m2 h3 (ck_e a ok tk h5).pe h4 (ck_e b ok tk h6).pe)
    · cases h
  | .lam _ _, k, X, W, e, ok, tk, h => by
    unfold chkE at h
    cases h
  | .app _, k, X, W, e, ok, tk, h => by
    unfold chkE at h
    cases h
theorem ck_ps : ∀ (ps : IPs) {k : Ck} {X : Cx} {W : WX} {pos : Pos} {ks : List (Option Expr)} {vs : List Expr}, CkOk k X c R → Takes X W → chkPs k ps ks vs = true → PPs X pos ks vs (ptr c W R ps)
  | .nil, k, X, W, pos, ks, vs, ok, tk, h => by
    unfold chkPs at h
    rw [Bool.and_eq_true, List.isEmpty_iff, List.isEmpty_iff] at h
    obtain ⟨rfl, rfl⟩ := h
    exact pps_nil
  | .cons a b r, k, X, W, pos, ks, vs, ok, tk, h => by
    unfold chkPs at h
    split at h
    · split at h
      · simp only [Bool.and_eq_true] at h
        exact pps_cons (ck_e a ok tk h.1.1).pe (ck_e b ok tk h.1.2).pe (ck_ps r ok tk h.2)
      · cases h
    · cases h
theorem ck_es : ∀ (es : IEs) {k : Ck} {X : Cx} {W : WX} {as : List Expr}, CkOk k X c R → Takes X W → chkEs k es as = true → PA X as (tA c W (evs R es))
  | .nil, k, X, W, as, ok, tk, h => by
    unfold chkEs at h
    rw [List.isEmpty_iff] at h
    subst h
    exact s_nil
  | .cons a r, k, X, W, as, ok, tk, h => by
    unfold chkEs at h
    split at h
    · simp only [Bool.and_eq_true] at h
      exact s_cons h.1.1 (ck_e a ok tk h.1.2).pe (ck_es r ok tk h.2)
    · cases h
theorem ck_o : ∀ (o : IO) {k : Ck} {X : Cx} {W : WX} {a : Option Expr}, CkOk k X c R → Takes X W → chkO k o a = true → PO X a (tO c W (evo R o))
  | .no, k, X, W, a, ok, tk, h => by
    unfold chkO at h
    rw [Option.isNone_iff_eq_none] at h
    subst h
    exact s_no
  | .yes a, k, X, W, o, ok, tk, h => by
    unfold chkO at h
    split at h
    · exact s_yes (ck_e a ok tk h).pe
    · cases h
theorem ck_c : ∀ (o : IO) {k : Ck} {X : Cx} {a : List Expr}, CkOk k X c R → Takes X WN → chkC k o a = true → PTs X a (tC c WN (evc R o))
  | .no, k, X, a, ok, tk, h => by
    unfold chkC at h
    rw [List.isEmpty_iff] at h
    subst h
    exact s_ifs0
  | .yes a, k, X, o, ok, tk, h => by
    unfold chkC at h
    split at h
    · exact s_ifs1 (ck_e a ok tk h).pt
    · cases h
theorem ck_i : ∀ (i : OI.It) {k : Ck} {X : Cx} {W : WX} {tg a : Expr}, CkOk k X c R → Takes X W → chkI k i tg a = true → PI X tg a (tI c W (evi R i))
  | .of a, k, X, W, tg, e, ok, tk, h => by
    unfold chkI at h
    exact s_of ok.K (ck_e a ok tk h).pe
  | .rng1 a, k, X, W, tg, e, ok, tk, h => by
    unfold chkI at h
    split at h
    · simp only [Bool.and_eq_true] at h
      have b' := bltC_ok ok h.1.1
      have he := b'.eq
      have hg := b'.gl
      have hm := b'.mg
      subst he
      exact s_rng1 hg hm h.1.2 (ck_e a ok tk h.2).pe
    · cases h
  | .rng2 a b, k, X, W, tg, e, ok, tk, h => by
    unfold chkI at h
    split at h
    · simp only [Bool.and_eq_true] at h
      have b' := bltC_ok ok h.1.1.1.1
      have he := b'.eq
      have hg := b'.gl
      have hm := b'.mg
      subst he
      exact s_rng2 hg hm h.1.1.1.2 (ck_e a ok tk h.1.2).pe h.1.1.2 (ck_e b ok tk h.2).pe
    · cases h
  | .rng3 a b d, k, X, W, tg, e, ok, tk, h => by
    unfold chkI at h
    split at h
    · simp only [Bool.and_eq_true] at h
      obtain ⟨⟨⟨⟨⟨⟨h1, h2⟩, h3⟩, h4⟩, h5⟩, h6⟩, h7⟩ := h
      have b' := bltC_ok ok h1
      have he := b'.eq
      have hg := b'.gl
      have hm := b'.mg
      subst he
      exact s_rng3 hg hm h2 (ck_e a ok tk h5).pe h3 (ck_e b ok tk h6).pe h4 (ck_e d ok tk h7).pe
    · cases h
  | .zip a b, k, X, W, tg, e, ok, tk, h => by
    unfold chkI at h
    split at h
    · split at h
      · simp only [Bool.and_eq_true] at h
        obtain ⟨⟨⟨⟨h1, h2⟩, h3⟩, h4⟩, h5⟩ := h
        have b' := bltC_ok ok h1
        have he := b'.eq
        have hg := b'.gl
        have hm := b'.mg
        subst he
        exact s_zip ok.K hg hm h2 (ck_e a ok tk h4).pe h3 (ck_e b ok tk h5).pe
      · cases h
    · cases h
end
end
end OI

/-! OIw: whether a text of mine is the text of the row: statements. -/
namespace OI
open PySem PySem.Spec PyProof.Rows L2

/-- none of the comprehensions -/
def plainV : Expr → Bool
  | .ListComp _ _ _ _ => false
  | .SetComp _ _ _ _ => false
  | .DictComp _ _ _ _ _ => false
  | _ => true
theorem plainV_ok {a : Expr} (h : plainV a = true) (t : Option Expr) (l : Nat) (env : PySem.Env) : swapsWith a t l env = pure false := by
  cases a <;> first | rfl | cases h
def notTup : Expr → Bool
  | .Tuple _ _ _ => false
  | .List _ _ => false
  | _ => true
theorem notTup_ok {t a : Expr} (h : notTup t = true ∨ notTup a = true) (env : PySem.Env) : swappedStores [t] a env = pure none := by
  unfold swappedStores
  cases t <;> cases a <;> first | rfl | (rcases h with h | h <;> cases h)
/-- a comprehension that is stored at once -/
def swapB (sc : Scope) (value tg : Expr) : Bool := match value with
  | .ListComp _ _ s _ => match tg with
    | .Name t pos => sc.names.lookup t == some .local && pos.line == value.pos.line && !(s.names.any fun (n, k) => n == t && (k == .local || k == .cell))
    | _ => false
  | _ => false
theorem swapB_ok {value tg : Expr} {env : PySem.Env} {l : Nat} (hk : env.blockKind = .function) (h1 : ∀ a b c d, value ≠ .SetComp a b c d) (h2 : ∀ a b c d e, value ≠ .DictComp a b c d e) : swapsWith value (some tg) l env = pure (swapB env.scope value tg) := by
  cases value with
  | ListComp a b c d =>
    cases tg with
    | Name t pos =>
      show (do pure (env.blockKind == .function && env.kindOf t == some .local && pos.line == (Expr.ListComp a b c d).pos.line && !(c.names.any fun (n, k) => n == t && (k == .local || k == .cell))) : Sem Bool) = _
      rw [hk]
      rfl
    | _ => rfl
  | SetComp a b c d => exact absurd rfl (h1 a b c d)
  | DictComp a b c d e => exact absurd rfl (h2 a b c d e)
  | _ => rfl
def noSD : Expr → Bool
  | .SetComp _ _ _ _ => false
  | .DictComp _ _ _ _ _ => false
  | _ => true
theorem assign_sub {o i : Expr} {tpos : Pos} (h : plainE i = true) (env : PySem.Env) (v : Value) : assign (.Subscript o i tpos) env v = (do
      let ov ← holding [v] (eval o env)
      let iv ← holding [v, ov] (eval i env)
      standAt tpos
      holding [v, ov, iv] (PySem.setItem ov iv v)
      release [v, ov, iv] []) := by
  cases i <;> first | rfl | cases h
def fnT : Str → Bool := fun _ => true

/-- in an except suite -/
def Ck.suite (k : Ck) : Ck := { k with hot := true }
mutual
def chkS (k : Ck) : IS → Stmt → Bool
  | .asg t e, st => match st with
    | .Assign [tg] v _ => tgC k fnT t tg && noSD v && (notTup tg || notTup v) && chkE k e v
    | _ => false
  | .setI o i a, st => match st with
    | .Assign [.Subscript x y _] v _ => plainV v && plainE y && chkE k o x && chkE k i y && chkE k a v
    | _ => false
  | .ret e, st => match st with
    | .Return (some v) _ => chkE k e v
    | _ => false
  | .ifs c a b, st => match st with
    | .If z x y _ => chkE k c z && chkSs k a x && chkSs k b y
    | _ => false
  | .expr e, st => match st with
    | .Expr v _ => plainV v && chkE k e v
    | _ => false
  | .mut0 f o, st => match st with
    | .Expr (.Call (.Attribute x fx ap) [] [] cp) _ => decide (fx = Str.ofString f) && (f == "clear" || f == "reverse") && plainE x && (ap.endLine == cp.line) && chkE k o x
    | _ => false
  | .mut1 f o a, st => match st with
    | .Expr (.Call (.Attribute x fx ap) [y] [] cp) _ => decide (fx = Str.ofString f) && (f == "append" || f == "extend" || f == "update") && plainE x && plainE y && (ap.endLine == cp.line) && chkE k o x && chkE k a y
    | _ => false
  | .fors t it b, st => match st with
    | .For tg iter body [] _ => !k.hot && plainE iter && tgC k fnT t tg && chkI k it tg iter && chkSs k b body
    | _ => false
  | .whil c b, st => match st with
    | .While z body [] _ => !k.hot && chkE k c z && chkSs k b body
    | _ => false
  | .pass, st => match st with
    | .Pass _ => true
    | _ => false
  | .bad, _ => true
  | .setA o f a, st => match st with
    | .Assign [.Attribute x fx _] v _ => decide (fx = Str.ofString f) && k.T.flds.contains f && noSD v && chkE k o x && chkE k a v
    | _ => false
  | .rais s, st => match st with
    | .Raise (some (.Call (.Name x _) [.Constant (.str _) _ _] [] _)) none _ => !k.hot && decide (x = Str.ofString s) && k.T.exs.contains s && glC k.sc x && plainName x
    | _ => false
  | .tryA b ks s i h, st => match st with
    | .Try body [.ExceptHandler (some (.Name x _)) (some nm) (b0 :: suite) _] [] [] _ => !k.hot && decide (x = Str.ofString s) && glC k.sc x && plainName x && decide (k.N[i]? = some nm) && decide (k.sc.names.lookup nm = some .local) && (ks.all fun y => k.T.exs.contains y) && ks.contains s && chkSs k b body && chkSs k.suite h (b0 :: suite)
    | _ => false
  | .tryM b ks hs, st => match st with
    | .Try body (h0 :: hds) [] [] _ => !k.hot && (ks.all fun y => k.T.exs.contains y) && (hs.cls.all fun y => ks.contains y) && chkSs k b body && chkH k.suite hs (h0 :: hds)
    | _ => false
  | _, _ => false
def chkH (k : Ck) : IHs → List ExceptHandler → Bool
  | .nil, hs => hs.isEmpty
  | .cons d b r, hs => match hs with
    | .ExceptHandler (some (.Name x _)) none (b0 :: suite) _ :: hds => decide (x = Str.ofString d) && glC k.sc x && plainName x && chkSs k b (b0 :: suite) && chkH k r hds
    | _ => false
def chkSs (k : Ck) : ISs → List Stmt → Bool
  | .nil, ss => ss.isEmpty
  | .cons a r, ss => match ss with
    | x :: xs => chkS k a x && chkSs k r xs
    | [] => false
end
structure StOk (k : Ck) (X : Cx) (c : Cn) (R : Runs) (W : WX) : Prop extends CkOk k X c R where
  own : k.hot = false → PassesOwn (model X.prog X.w) X.A X.env X.xe
  stk : X.stack = X.env :: X.outer
  frm : X.env.frame = some X.env.locals
  fnT : ∀ x, X.fn x = true
  kind : X.env.blockKind = .function
  tk : Takes X W
section
variable {k : Ck} {X : Cx} {c : Cn} {R : Runs} {W : WX} {n : Nat}
theorem setLc (ok : StOk k X c R W) {t : Tg} {y : Str} {py pos lpos : Pos} {i : Nat} {x : Expr} {gens : List Comprehension} {scope : Scope} (hi : k.N[i]? = some y) (hl : X.env.scope.names.lookup y = some .local) (hsw : swapsWith (.ListComp x gens scope lpos) (some (.Name y py)) pos.line X.env = pure true) :
    ∀ e : IE, chkE k e (.ListComp x gens scope lpos) = true → PS X (.Assign [.Name y py] (.ListComp x gens scope lpos) pos) (tAsg (tE c W (ev R e)) (gName i))
  | .lc elt t it co own, h4 => by
    unfold chkE at h4
    split at h4
    · rename_i x tg iter ifs scope pos' heq
      cases heq
      simp only [Bool.and_eq_true, Bool.not_eq_true'] at h4
      obtain ⟨⟨⟨⟨⟨⟨⟨g0, g1⟩, g2⟩, g3⟩, g4⟩, g5⟩, g6⟩, g7⟩ := h4
      have ho : ∀ i ∈ t.slots, i ∈ own := fun i hi => by
        rw [List.all_eq_true] at g1
        simpa using g1 i hi
      have hown : (own.map fun i => (k.N.getD i ⟨#[]⟩, i)).map (·.2) = own := by
        rw [List.map_map]
        exact List.map_id' own
      have hbk : BlkOk X.N X.env.scope scope (own.map fun i => (k.N.getD i ⟨#[]⟩, i)) := by
        rw [ok.N, ok.sc]
        exact blkOk_by g3
      have ps := ps_setLc (X := X) (pos := lpos) (spos := pos) (py := py) (i := i) (y := y) (g := gT X.K t) (wi := tI c W (evi R it)) (tt := tC c WN (evc R co)) (te := tE c WN (ev R elt)) (ok.calm g0) (by rw [ok.N]; exact ok.nd) (by rw [ok.N]; exact hi) hl hsw
        (ck_i it ok.toCkOk ok.tk g4 (W := W)) hbk (fun s H C cl fp => tgC_ok (ok.blk g0) (fun y hy => hy) g5) (fun s H C cl fp => ck_c co (ok.blk g0) takes0 g7) (fun s H C cl fp => (ck_e elt (ok.blk g0) takes0 g6).pe) (fun v => plain_fold g2 X.env v)
      rw [hown] at ps
      exact ps.weak fun D σ H q => lc_weak ok.K ho q
    · cases h4
  | .share a, h4 => by
    unfold chkE at h4
    rw [Bool.and_eq_true] at h4
    exact (setLc ok hi hl hsw (t := t) a h4.2).weak fun D σ H q => share_weak q
  | .var _, h => by
    unfold chkE at h
    cases h
  | .cst _, h => by
    unfold chkE at h
    cases h
  | .glob _ _, h => by
    unfold chkE at h
    cases h
  | .bin _ _ _, h => by
    unfold chkE at h
    cases h
  | .neg _, h => by
    unfold chkE at h
    cases h
  | .cmp _ _ _, h => by
    unfold chkE at h
    cases h
  | .chain _ _ _ _ _, h => by
    unfold chkE at h
    cases h
  | .isN _ _, h => by
    unfold chkE at h
    cases h
  | .isB _ _ _, h => by
    unfold chkE at h
    cases h
  | .both _ _, h => by
    unfold chkE at h
    cases h
  | .either _ _, h => by
    unfold chkE at h
    cases h
  | .nott _, h => by
    unfold chkE at h
    cases h
  | .ife _ _ _, h => by
    unfold chkE at h
    cases h
  | .tup _, h => by
    unfold chkE at h
    cases h
  | .lst _, h => by
    unfold chkE at h
    cases h
  | .dct _ _, h => by
    unfold chkE at h
    cases h
  | .idx _ _, h => by
    unfold chkE at h
    cases h
  | .slc _ _ _, h => by
    unfold chkE at h
    cases h
  | .attr _ _, h => by
    unfold chkE at h
    cases h
  | .call _ _, h => by
    unfold chkE at h
    cases h
  | .new _ _, h => by
    unfold chkE at h
    cases h
  | .meth _ _ _ _, h => by
    unfold chkE at h
    cases h
  | .bi1 _ _, h => by
    unfold chkE at h
    cases h
  | .bi2 _ _ _, h => by
    unfold chkE at h
    cases h
  | .bi3 _ _ _ _, h => by
    unfold chkE at h
    cases h
  | .bm1 _ _ _, h => by
    unfold chkE at h
    cases h
  | .bm2 _ _ _ _, h => by
    unfold chkE at h
    cases h
  | .isi _ _ _, h => by
    unfold chkE at h
    cases h
  | .lrange _ _, h => by
    unfold chkE at h
    cases h
  | .lam _ _, h => by
    unfold chkE at h
    cases h
  | .app _, h => by
    unfold chkE at h
    cases h
  | .chain3 _ _ _ _ _ _ _, h => by
    unfold chkE at h
    cases h
  | .bad, h => ⟨fun pins s σ H D I q => by obtain ⟨_, _, _, _, _, p⟩ := q; exact p.elim⟩
theorem asg_ok (ok : StOk k X c R W) {t : Tg} {e : IE} {tg v : Expr} {pos : Pos} (h1 : tgC k fnT t tg = true) (h2 : noSD v = true) (h3 : (notTup tg || notTup v) = true) (h4 : chkE k e v = true) :
    PS X (.Assign [tg] v pos) (tAsg (tE c W (ev R e)) (gT X.K t)) := by
  have hg := tgC_ok ok.toCkOk (fun x _ => ok.fnT x) h1
  have he := (ck_e e ok.toCkOk ok.tk h4).pe
  have hsw : swapsWith v (some tg) pos.line X.env = pure (swapB k.sc v tg) := by
    rw [← ok.sc]
    exact swapB_ok ok.kind (fun a b c d e => by subst e; cases h2) (fun a b c d e z => by subst z; cases h2)
  have ht : swappedStores [tg] v X.env = pure none := notTup_ok (by rw [Bool.or_eq_true] at h3; exact h3) X.env
  have hlen : (assignEach [tg] X.env).map (·.2) = [assign tg X.env] := by
    cases tg <;> first | rfl | (cases t <;> cases h1)
  cases hb : swapB k.sc v tg with
  | false =>
    rw [hb] at hsw
    exact ps_asg he hg hsw ht hlen
  | true =>
    rw [hb] at hsw
    unfold swapB at hb
    split at hb
    · split at hb
      · rename_i y py
        cases t with
        | many is => cases h1
        | one i =>
          simp only [Bool.and_eq_true, beq_iff_eq] at hb
          have hl := hb.1.1
          rw [← ok.sc] at hl
          have h1 : tg1C k fnT i (.Name y py) = true := h1
          unfold tg1C at h1
          dsimp only at h1
          rw [Bool.and_eq_true, decide_eq_true_eq] at h1
          exact setLc ok (t := .one i) h1.1 hl hsw e h4
      · cases hb
    · cases hb
/-- a try's body -/
theorem StOk.try (ok : StOk k X c R W) (h0 : k.hot = false) {W' : WX} {pn : List (Addr × Obj)} {xe : Value → Shared → Prop} (tk : Takes (X.tr pn xe) W') (own : PassesOwn (model X.prog X.w) X.A X.env xe) : StOk k (X.tr pn xe) c R W' where
  N := ok.N
  nd := ok.nd
  sc := ok.sc
  K := ok.K
  calm := ok.calm
  un := ok.un
  fn := fun hh f np h => by
    obtain ⟨j, ⟨hF⟩, hr⟩ := ok.fn hh f np h
    exact ⟨j, ⟨hF⟩, hr⟩
  mt := fun hh C m np h => by
    obtain ⟨j, ⟨h1, hF⟩, hr⟩ := ok.mt hh C m np h
    exact ⟨j, ⟨h1, hF⟩, hr⟩
  nw := fun hh C np h => by
    obtain ⟨j, ⟨h1, hF⟩, hr⟩ := ok.nw hh C np h
    exact ⟨j, ⟨h1, hF⟩, hr⟩
  blt := ok.blt
  fld := ok.fld
  ext := ⟨fun k hk => let e := ok.ext.ex k hk; ⟨e.mg, e.kp, e.xc, e.sb, e.ve, e.ty, e.is⟩, ok.ext.sub⟩
  glb := ok.glb
  hotE := fun a k h => by rw [ok.ex0 h0] at h; cases h
  ex0 := ok.ex0
  own := fun _ => own
  stk := ok.stk
  frm := ok.frm
  fnT := ok.fnT
  kind := ok.kind
  tk := tk
/-- an except suite that holds an exception of the class kk -/
theorem StOk.suite (ok : StOk k X c R W) (hx : c.exn = none) {a : Addr} {oe : Obj} {kk : String} {pn : List (Addr × Obj)} (hk : kk ∈ k.T.exs) (hz : Zc (.ref (c.cls kk)) none oe) (hf : ∃ vs, oe.data = .fields vs) : StOk k.suite (X.suite a ((a, oe) :: pn)) (c.ex a kk) R WN where
  N := ok.N
  nd := ok.nd
  sc := ok.sc
  K := ok.K
  calm := fun h => by cases h
  un := ok.un
  fn := fun h => by cases h
  mt := fun h => by cases h
  nw := fun h => by cases h
  blt := ok.blt
  fld := ok.fld
  ext := ⟨fun k hk => let e := ok.ext.ex k hk; ⟨e.mg, e.kp, e.xc, e.sb, e.ve, e.ty, e.is⟩, ok.ext.sub⟩
  glb := fun x d h => by
    obtain ⟨v, u, h1, h2, h3⟩ := ok.glb x d h
    exact ⟨v, u, h1, h2, fun S => RepD.ex hx (h3 S)⟩
  hotE := fun a' k' h => by
    have h : some (a, kk) = some (a', k') := h
    cases h
    exact ⟨hk, call_isE (ok.ext.ex kk hk).is hz hf, call_isET (ok.ext.ex kk hk).is hz hf⟩
  ex0 := fun h => by cases h
  own := fun h => by cases h
  stk := ok.stk
  frm := ok.frm
  fnT := ok.fnT
  kind := ok.kind
  tk := takes0
/-- one that holds it by no name -/
theorem StOk.suite0 (ok : StOk k X c R W) (hx : c.exn = none) {a : Addr} {oe : Obj} {cls : Value} {dd : Option Addr} {pn : List (Addr × Obj)} (hz : Zc cls dd oe) (hf : ∃ vs, oe.data = .fields vs) : StOk k.suite (X.suite a ((a, oe) :: pn)) c R WN where
  N := ok.N
  nd := ok.nd
  sc := ok.sc
  K := ok.K
  calm := fun h => by cases h
  un := ok.un
  fn := fun h => by cases h
  mt := fun h => by cases h
  nw := fun h => by cases h
  blt := ok.blt
  fld := ok.fld
  ext := ⟨fun k hk => let e := ok.ext.ex k hk; ⟨e.mg, e.kp, e.xc, e.sb, e.ve, e.ty, e.is⟩, ok.ext.sub⟩
  glb := ok.glb
  hotE := fun a' k' h => by rw [hx] at h; cases h
  ex0 := fun h => by cases h
  own := fun h => by cases h
  stk := ok.stk
  frm := ok.frm
  fnT := ok.fnT
  kind := ok.kind
  tk := takes0
mutual
theorem ck_s : ∀ (i : IS) {k : Ck} {X : Cx} {c : Cn} {W : WX} {ws : List Nat} {st : Stmt}, StOk k X c R W → (∀ j ∈ wr i, j ∈ ws) → chkS k i st = true → PS X st (tS c W ws (exec R n i))
  | .asg t e, k, X, c, W, ws, st, ok, hw, h => by
    unfold chkS at h
    split at h
    · simp only [Bool.and_eq_true] at h
      obtain ⟨⟨⟨h1, h2⟩, h3⟩, h4⟩ := h
      exact s_asg ok.K hw (asg_ok ok h1 h2 h3 h4)
    · cases h
  | .setI o i a, k, X, c, W, ws, st, ok, hw, h => by
    unfold chkS at h
    split at h
    · simp only [Bool.and_eq_true] at h
      obtain ⟨⟨⟨⟨h1, h2⟩, h3⟩, h4⟩, h5⟩ := h
      exact s_setI (by have := ok.un; omega) hw (fun l => by unfold swapsWithSole; exact plainV_ok h1 _ l X.env) (notTup_ok (.inl rfl) X.env) (ck_e a ok.toCkOk ok.tk h5).pe (ck_e o ok.toCkOk ok.tk h3).pe (ck_e i ok.toCkOk ok.tk h4).pe fun v => assign_sub h2 X.env v
    · cases h
  | .ret e, k, X, c, W, ws, st, ok, hw, h => by
    unfold chkS at h
    split at h
    · exact s_ret (ck_e e ok.toCkOk ok.tk h).pe
    · cases h
  | .ifs z a b, k, X, c, W, ws, st, ok, hw, h => by
    unfold chkS at h
    split at h
    · simp only [Bool.and_eq_true] at h
      exact s_ifs (ck_e z ok.toCkOk ok.tk h.1.1).pt (ck_ss a ok (fun j hj => hw j (List.mem_append_left _ hj)) h.1.2) (ck_ss b ok (fun j hj => hw j (List.mem_append_right _ hj)) h.2)
    · cases h
  | .expr e, k, X, c, W, ws, st, ok, hw, h => by
    unfold chkS at h
    split at h
    · simp only [Bool.and_eq_true] at h
      exact s_expr (fun l => plainV_ok h.1 _ l X.env) (ck_e e ok.toCkOk ok.tk h.2).pe
    · cases h
  | .mut0 f o, k, X, c, W, ws, st, ok, hw, h => by
    unfold chkS at h
    split at h
    · simp only [Bool.and_eq_true, decide_eq_true_eq, Bool.or_eq_true, beq_iff_eq] at h
      obtain ⟨⟨⟨⟨h1, h2⟩, h3⟩, h4⟩, h5⟩ := h
      have ho := (ck_e o ok.toCkOk ok.tk h5).pe
      subst h1
      rcases h2 with rfl | rfl
      · exact s_app0 ok.K PySem.F.slot_list_clear PySem.F.type_list_clear mt_clear hw r_clear ho h3 (by simpa using h4)
      · exact s_app0 ok.K PySem.F.slot_list_reverse PySem.F.type_list_reverse mt_reverse hw r_reverse ho h3 (by simpa using h4)
    · cases h
  | .mut1 f o a, k, X, c, W, ws, st, ok, hw, h => by
    unfold chkS at h
    split at h
    · simp only [Bool.and_eq_true, decide_eq_true_eq, Bool.or_eq_true, beq_iff_eq] at h
      obtain ⟨⟨⟨⟨⟨⟨h1, h2⟩, h3⟩, h4⟩, h5⟩, h6⟩, h7⟩ := h
      have ho := (ck_e o ok.toCkOk ok.tk h6).pe
      have ha := (ck_e a ok.toCkOk ok.tk h7).pe
      subst h1
      rcases h2 with (rfl | rfl) | rfl
      · exact s_app ok.K PySem.F.slot_list_append PySem.F.type_list_append mt_append (by decide) hw r_append ho ha h3 h4 (by simpa using h5)
      · exact s_app ok.K PySem.F.slot_list_extend PySem.F.type_list_extend mt_extend (by decide) hw r_extend ho ha h3 h4 (by simpa using h5)
      · exact s_upd hw ho ha h3 h4 (by simpa using h5)
    · cases h
  | .fors t it b, k, X, c, W, ws, st, ok, hw, h => by
    unfold chkS at h
    split at h
    · simp only [Bool.and_eq_true, Bool.not_eq_true'] at h
      obtain ⟨⟨⟨⟨h0, h1⟩, h2⟩, h3⟩, h4⟩ := h
      exact s_for ok.K (ok.own h0) (ok.calm h0) (ck_i it ok.toCkOk ok.tk h3) (tgC_ok ok.toCkOk (fun x _ => ok.fnT x) h2) hw (ck_ss b ok (fun j hj => List.mem_append_right _ hj) h4) (fun v => plain_fold h1 X.env v)
    · cases h
  | .whil z b, k, X, c, W, ws, st, ok, hw, h => by
    unfold chkS at h
    split at h
    · simp only [Bool.and_eq_true, Bool.not_eq_true'] at h
      exact s_while (ok.own h.1.1) (ck_e z ok.toCkOk ok.tk h.1.2).pt (ck_ss b ok hw h.2)
    · cases h
  | .pass, k, X, c, W, ws, st, ok, hw, h => by
    unfold chkS at h
    split at h
    · exact s_pass
    · cases h
  | .pop _ _, k, X, c, W, ws, st, ok, hw, h => by
    unfold chkS at h
    cases h
  | .bad, k, X, c, W, ws, st, ok, hw, h => ⟨fun pins s σ H D I q => by obtain ⟨_, _, _, _, _, p⟩ := q; exact p.elim⟩
  | .setA o f a, k, X, c, W, ws, st, ok, hw, h => by
    unfold chkS at h
    split at h
    · simp only [Bool.and_eq_true, decide_eq_true_eq] at h
      obtain ⟨⟨⟨⟨rfl, h2⟩, h3⟩, h4⟩, h5⟩ := h
      have hf := ok.fld f (by simpa using h2)
      exact s_setA (fun kk => (hf kk).1) (fun kk => (hf kk).2) (by
        rw [swapB_ok ok.kind (fun a b c d e => by subst e; cases h3) (fun a b c d e z => by subst z; cases h3)]
        unfold swapB
        split <;> rfl) (ck_e o ok.toCkOk ok.tk h4).pe (ck_e a ok.toCkOk ok.tk h5).pe
    · cases h
  | .rais s, k, X, c, W, ws, st, ok, hw, h => by
    unfold chkS at h
    split at h
    · simp only [Bool.and_eq_true, decide_eq_true_eq, Bool.not_eq_true'] at h
      obtain ⟨⟨⟨⟨h0, rfl⟩, h2⟩, h3⟩, h4⟩ := h
      exact s_rais (m := "") (ok.calm h0) ok.tk (ok.ext.ex s (by simpa using h2)) (glC_ok ok.toCkOk h3) (plainName_ok h4).1
    · cases h
  | .tryA b ks s i h, k, X, c, W, ws, st, ok, hw, hh => by
    unfold chkS at hh
    split at hh
    · simp only [Bool.and_eq_true, decide_eq_true_eq, Bool.not_eq_true'] at hh
      obtain ⟨⟨⟨⟨⟨⟨⟨⟨⟨h0, rfl⟩, h2⟩, h3⟩, h4⟩, h5⟩, h6⟩, h7⟩, h8⟩, h9⟩ := hh
      have hks : ∀ y ∈ ks, y ∈ k.T.exs := fun y hy => by
        rw [List.all_eq_true] at h6
        simpa using h6 y hy
      have T : ExTab X c ks := ⟨fun y hy => ok.ext.ex y (hks y hy), fun y hy z hz => ok.ext.sub y (hks y hy) z (hks z hz)⟩
      refine s_tryA (ws2 := wrs h) ok.stk ok.frm (by rw [ok.N]; exact ok.nd) (by rw [ok.N]; exact h4) (by rw [← ok.sc] at h5; exact h5) T (by simpa using h7) (glC_ok ok.toCkOk h2) (plainName_ok h3).1 ok.tk (ok.ex0 h0) (hw i (List.mem_cons_self ..))
        (fun W' pn xe tk own => ck_ss b (ok.try h0 tk own) (fun j hj => hw j (List.mem_cons_of_mem _ (List.mem_append_left _ hj))) h8) fun a oe kk pn hk hz hf => ?_
      exact ck_ss h (ok.suite (ok.ex0 h0) (hks kk hk) hz hf) (fun j hj => hj) h9
    · cases hh
  | .tryM b ks hs, k, X, c, W, ws, st, ok, hw, hh => by
    unfold chkS at hh
    split at hh
    · simp only [Bool.and_eq_true, Bool.not_eq_true'] at hh
      obtain ⟨⟨⟨⟨h0, h1⟩, h2⟩, h3⟩, h4⟩ := hh
      have hks : ∀ y ∈ ks, y ∈ k.T.exs := fun y hy => by
        rw [List.all_eq_true] at h1
        simpa using h1 y hy
      have T : ExTab X c ks := ⟨fun y hy => ok.ext.ex y (hks y hy), fun y hy z hz => ok.ext.sub y (hks y hy) z (hks z hz)⟩
      have hd : ∀ d ∈ hs.cls, d ∈ ks := fun d hd => by
        rw [List.all_eq_true] at h2
        simpa using h2 d hd
      exact s_tryM ok.stk ok.frm T hd ok.tk (fun W' pn xe tk own => ck_ss b (ok.try h0 tk own) (fun j hj => hw j (List.mem_append_left _ hj)) h3)
        (ck_h hs ok T hd (ok.ex0 h0) (fun j hj => hw j (List.mem_append_right _ hj)) h4)
    · cases hh
theorem ck_h : ∀ (hs : IHs) {k : Ck} {X : Cx} {c : Cn} {W : WX} {ws : List Nat} {ks : List String} {st : List ExceptHandler}, StOk k X c R W → ExTab X c ks → (∀ d ∈ hs.cls, d ∈ ks) → c.exn = none → (∀ j ∈ wrh hs, j ∈ ws) → chkH k.suite hs st = true → HdsOk X st (hdl c R n ws hs)
  | .nil, k, X, c, W, ws, ks, st, ok, T, hd, hx, hw, h => by
    unfold chkH at h
    rw [List.isEmpty_iff] at h
    subst h
    exact .nil
  | .cons d b r, k, X, c, W, ws, ks, st, ok, T, hd, hx, hw, h => by
    unfold chkH at h
    split at h
    · simp only [Bool.and_eq_true, decide_eq_true_eq] at h
      obtain ⟨⟨⟨⟨rfl, h2⟩, h3⟩, h4⟩, h5⟩ := h
      refine .cons ⟨glC_ok ok.toCkOk h2, (plainName_ok h3).1, .inl (T.ex d (hd d (List.mem_cons_self ..))).mg⟩ (fun a oe cls dd pn hz hf => ?_) (ck_h r ok T (fun d' hd' => hd d' (List.mem_cons_of_mem _ hd')) hx (fun j hj => hw j (List.mem_append_right _ hj)) h5)
      exact ck_ss b (ok.suite0 hx hz hf) (fun j hj => hw j (List.mem_append_left _ hj)) h4
    · cases h
theorem ck_ss : ∀ (i : ISs) {k : Ck} {X : Cx} {c : Cn} {W : WX} {ws : List Nat} {st : List Stmt}, StOk k X c R W → (∀ j ∈ wrs i, j ∈ ws) → chkSs k i st = true → PSs X st (tS c W ws (execs R n i))
  | .nil, k, X, c, W, ws, st, ok, hw, h => by
    unfold chkSs at h
    rw [List.isEmpty_iff] at h
    subst h
    exact s_snil
  | .cons a r, k, X, c, W, ws, st, ok, hw, h => by
    unfold chkSs at h
    split at h
    · rw [Bool.and_eq_true] at h
      exact s_scons (ck_s a ok (fun j hj => hw j (List.mem_append_left _ hj)) h.1) (ck_ss r ok (fun j hj => hw j (List.mem_append_right _ hj)) h.2)
    · cases h
end
end
end OI

/-! OIx: all defs of a text; the law. -/
namespace OI
open PySem PySem.Spec PyProof.Rows L2

inductive EKind where
  | fn | mt (C m : String) | init (C : String)
structure Entry where
  kind : EKind
  name : String
  dn : Str
  qual : Str
  ps : List Str
  N : List Str
  st : Stmt
  fa : Addr
  fd : FuncData
  fn : Fn
def fnsOf (T : List Entry) : List (String × Nat) := T.filterMap fun e => match e.kind with
  | .fn => some (e.name, e.fn.np)
  | _ => none
def mthsOf (T : List Entry) : List (String × String × Nat) := T.filterMap fun e => match e.kind with
  | .mt C m => some (C, m, e.fn.np)
  | _ => none
def newsOf (T : List Entry) : List (String × Nat) := T.filterMap fun e => match e.kind with
  | .init C => some (C, e.fn.np)
  | _ => none
/-- how a def is found -/
def Found (K : PySem.W.Frag) (mg : Str → Option Value) (c : Cn) (e : Entry) : Prop :=
  match e.kind with
  | .fn => mg (Str.ofString e.name) = some (.ref e.fa)
  | .mt C m => e.name = C ++ "." ++ m ∧ Cls K (c.icl C) ∧ Meth K (c.icl C) (Str.ofString m) e.fa
  | .init C => e.name = C ++ ".__init__" ∧ mg (Str.ofString C) = some (.ref (c.icl C)) ∧ Mk K (c.icl C) e.fa
structure EntOk (K : PySem.W.Frag) (mg : Str → Option Value) (c : Cn) (Pg : Prog) (tab : Tab) (e : Entry) : Prop where
  F : L2.Fun K e.dn e.qual e.st e.fa e.fd
  S : FnScope e.N e.ps (defScope e.st)
  B : Binds K e.fd e.ps []
  at_ : Found K mg c e
  np : e.ps.length = e.fn.np
  ns : e.fn.ns = e.N.length
  lk : look Pg e.name = some e.fn
  ck : chkSs ⟨e.N, defScope e.st, tab, false⟩ e.fn.body (defBody e.st) = true
structure ExK (K : PySem.W.Frag) (mg : Str → Option Value) (c : Cn) (k : String) : Prop where
  mg : mg (Str.ofString k) = some (.ref (c.cls k))
  kp : PySem.W.keepIn K (.ref (c.cls k)) = true
  xc : PySem.W.excIn K (c.cls k) [.type "ValueError", .type "Exception", .type "BaseException", .type "object"] "ValueError.__new__" = true
  sb : PySem.W.subIn K (.ref (c.cls k)) (.type "BaseException") = some true
  ve : PySem.W.subIn K (.ref (c.cls k)) (.type "ValueError") = some true
  ty : PySem.W.typeIn K (.ref (c.cls k)) = some (.type "type")
  is : ExcC K (c.cls k)
/-- what the text has is so -/
structure TabOk (K : PySem.W.Frag) (mg : Str → Option Value) (c : Cn) (tab : Tab) : Prop where
  blt : ∀ x ∈ tab.blts, mg (Str.ofString x) = none
  fld : ∀ f ∈ tab.flds, ∀ kk, Cls K (c.icl kk) ∧ NoAttr K (c.icl kk) (Str.ofString f)
  ex : ∀ k ∈ tab.exs, ExK K mg c k
  sub : ∀ k ∈ tab.exs, ∀ d ∈ tab.exs, PySem.W.subIn K (.ref (c.cls k)) (.ref (c.cls d)) = some (isSub k d)
  glb : ∀ x d, (x, d) ∈ tab.glbs → GlobOk c mg x d
theorem all_ok {P : Program} {w : World} {K : PySem.W.Frag} {mg : Str → Option Value} {base : Heap} {c : Cn} (hK : K = c.K) (hx : c.exn = none) {T : List Entry} {Pg : Prog} {tab : Tab} {m : Nat} (h1 : tab.fns = fnsOf T) (h2 : tab.mths = mthsOf T) (h3 : tab.news = newsOf T) (hb : TabOk K mg c tab)
    (hT : ∀ e ∈ T, EntOk K mg c Pg tab e) : ∀ n, ∀ e ∈ T, FnOk P w K mg base (L2.CX P w) (2 * n) e.fa e.fd e.ps (spF c (run Pg m n) e.name e.fn.np)
  | 0, e, _ => ⟨fun vs H Q E ⟨_, _, _, _, _, _, _, _, p⟩ => p.elim, fun A outer s H args us vs Q E _ _ _ _ ⟨_, _, _, _, _, _, _, _, p⟩ => p.elim⟩
  | n + 1, e, he => by
    have ih := all_ok (P := P) (w := w) (base := base) hK hx h1 h2 h3 hb hT n (m := m)
    have o := hT e he
    refine def_ok (k := 2 * n + 1) (ws := wrs e.fn.body) o.F o.S o.lk o.np o.ns fun cdv A outer s H E hr => ?_
    have hr0 := hr.mono (show 2 * n ≤ 2 * n + 1 by omega)
    refine ck_ss e.fn.body ⟨⟨rfl, o.S.nd, rfl, hK, fun _ => rfl, ?_, fun _ f np hf => ?_, fun _ C mm np hf => ?_, fun _ C np hf => ?_, hb.blt, hb.fld, ⟨fun k hk => let x := hb.ex k hk; ⟨x.mg, x.kp, x.xc, x.sb, x.ve, x.ty, x.is⟩, hb.sub⟩, hb.glb, fun a k h => by (rw [hx] at h; cases h), fun _ => hx⟩, fun _ => passes_of rfl, rfl, rfl, fun _ => rfl, ?_, takes_of rfl rfl rfl rfl⟩ (fun j hj => hj) o.ck
    · have := hr.un
      show (A.deeper _).units + 65 < cLine
      omega
    · have hf : (f, np) ∈ tab.fns := hf
      rw [h1] at hf
      obtain ⟨e2, g2, g3⟩ := List.mem_filterMap.mp hf
      have o2 := hT e2 g2
      have a2 := o2.at_
      unfold Found at a2
      split at g3
      · rename_i hk
        rw [hk] at a2
        cases g3
        exact ⟨2 * n, ⟨⟨e2.fa, e2.fd, e2.ps, a2, o2.F.kp, o2.B, o2.np, ih e2 g2⟩⟩, hr0⟩
      · cases g3
    · have hf : (C, mm, np) ∈ tab.mths := hf
      rw [h2] at hf
      obtain ⟨e2, g2, g3⟩ := List.mem_filterMap.mp hf
      have o2 := hT e2 g2
      have a2 := o2.at_
      unfold Found at a2
      split at g3
      · rename_i hk
        rw [hk] at a2
        cases g3
        obtain ⟨q1, q2, q3⟩ := a2
        exact ⟨2 * n, ⟨q2, e2.fa, e2.fd, e2.ps, q3, o2.B, o2.np, by rw [← q1]; exact ih e2 g2⟩, hr0⟩
      · cases g3
    · have hf : (C, np) ∈ tab.news := hf
      rw [h3] at hf
      obtain ⟨e2, g2, g3⟩ := List.mem_filterMap.mp hf
      have o2 := hT e2 g2
      have a2 := o2.at_
      unfold Found at a2
      split at g3
      · rename_i hk
        rw [hk] at a2
        cases g3
        obtain ⟨q1, q2, q3⟩ := a2
        exact ⟨2 * n, ⟨q2, e2.fa, e2.fd, e2.ps, q3, o2.B, o2.np, by rw [← q1]; exact ih e2 g2⟩, hr⟩
      · cases g3
    · show (if (defScope e.st).kind.isAnnotationScope then ScopeKind.function else (defScope e.st).kind) = .function
      rw [o.S.kind]
      rfl
/-- the law's promise from the plain run -/
theorem law_sp {K : PySem.W.Frag} {c : Cn} (hK : K = c.K) {Pg : Prog} {m n N : Nat} (pure : ∀ ns : List Int, ns.length ≤ N → (∀ z ∈ ns, Builtin.Int.intBits z ≤ 1048576) → ∃ s, run Pg m n "law" [.scr ns] [] = .ok (.val (.bl true)) s)
    (H : Hp) (a : Addr) (ns : List Int) (h1 : ns.length ≤ N) (h2 : ∀ z ∈ ns, Builtin.Int.intBits z ≤ 1048576) (h3 : Only H) (h4 : SqL K H a (ns.map V.int)) : spF c (run Pg m n) "law" 1 [.ref a] H (fun v _ => v = .bl true) fun _ _ _ => False := by
  obtain ⟨s, hs⟩ := pure ns h1 h2
  refine ⟨⟨[], fun _ => none, H⟩, [], [.scr ns], rfl, ⟨rfl, fun n e h => by simp at h, fun a h => absurd rfl h, fun a q n h => (by cases h), fun b => ?_⟩, fun a i h => (by cases h), ⟨_, [], rfl, ⟨a, rfl, ?_⟩, rfl⟩, rfl, ?_⟩
  · rcases h3 b with e | ⟨o, xs, e⟩
    · show (∀ xs, H b = _ → _) ∧ (∀ xs, H b = _ → _) ∧ (∀ xs, H b = _ → _)
      rw [e]
      exact ⟨fun _ z => (by cases z), fun _ z => (by cases z), fun _ z => (by cases z)⟩
    · show (∀ xs, H b = _ → _) ∧ (∀ xs, H b = _ → _) ∧ (∀ xs, H b = _ → _)
      rw [e]
      exact ⟨fun _ z => (by cases z), fun _ z => (by cases z), fun _ z => (by cases z)⟩
  · rw [hK] at h4
    exact h4.elim (fun h => .inl ⟨h, rfl⟩) .inr
  · rw [hs]
    exact fun S' v _ _ _ r => r
/-- constants of the module -/
theorem glb_int {c : Cn} {mg : Str → Option Value} {x : String} {n : Int} {t : Tok} (h : mg (Str.ofString x) = some (.int n t)) : GlobOk c mg x (.int n) := ⟨.int n, _, h, ⟨t, rfl⟩, fun _ => rfl⟩
theorem glb_str {c : Cn} {mg : Str → Option Value} {x : String} {n : Str} {t : Tok} (h : mg (Str.ofString x) = some (.str n t)) : GlobOk c mg x (.str n) := ⟨.str n, _, h, ⟨t, rfl⟩, fun _ => rfl⟩
theorem glb_strs {c : Cn} {mg : Str → Option Value} {x : String} {ss : List Str} {w : Addr} {dw : Option Addr} {its : Array Value} {nw : Nat} {sl : Array (Option Value)} (h : mg (Str.ofString x) = some (.ref w)) (l : c.K.lookup w = some ⟨.type "tuple", dw, .seq its nw, sl⟩) (hz : its.size ≤ sizeLine) (v : Vals (ss.map V.str) its.toList) : GlobOk c mg x (.tup (ss.map .str)) :=
  ⟨.ref w, _, h, rfl, fun S => ⟨w, _, rfl, .inr ⟨_, its, nw, l, rfl, rfl, hz, v⟩, RepDs.strs ss⟩⟩
/-! words for the end of a claim's text -/
def pick : List (String × Addr) → Addr → String → Addr
  | [], d, _ => d
  | (n, a) :: r, d, s => if s = n then a else pick r d s
theorem pick_all {p : Addr → Prop} {d : Addr} (hd : p d) : ∀ {l : List (String × Addr)}, (∀ x ∈ l, p x.2) → ∀ s, p (pick l d s)
  | [], _, s => hd
  | (n, a) :: r, h, s => by
    unfold pick
    split
    · exact h _ (List.mem_cons_self ..)
    · exact pick_all hd (fun x hx => h x (List.mem_cons_of_mem _ hx)) s
section
variable {K : PySem.W.Frag} {mg : Str → Option Value} {c : Cn}
theorem exk_of {k : String} {x : Addr} (e : c.cls k = x) (h1 : mg (Str.ofString k) = some (.ref x)) (h2 : PySem.W.keepIn K (.ref x) = true) (h3 : PySem.W.excIn K x [.type "ValueError", .type "Exception", .type "BaseException", .type "object"] "ValueError.__new__" = true)
    (h4 : PySem.W.subIn K (.ref x) (.type "BaseException") = some true) (h5 : PySem.W.subIn K (.ref x) (.type "ValueError") = some true) (h6 : PySem.W.typeIn K (.ref x) = some (.type "type")) (h7 : ExcC K x) : ExK K mg c k := by
  subst e
  exact ⟨h1, h2, h3, h4, h5, h6, h7⟩
theorem sub_of {k d : String} {x y : Addr} {b : Bool} (e1 : c.cls k = x) (e2 : c.cls d = y) (h : PySem.W.subIn K (.ref x) (.ref y) = some b) (hb : b = isSub k d) : PySem.W.subIn K (.ref (c.cls k)) (.ref (c.cls d)) = some (isSub k d) := by
  rw [e1, e2, h, hb]
theorem mt_of {C m : String} {y : Addr} {e : Entry} (hk : e.kind = .mt C m) (hn : e.name = C ++ "." ++ m) (hy : c.icl C = y) (hc : Cls K y) (hm : Meth K y (Str.ofString m) e.fa) : Found K mg c e := by
  unfold Found
  rw [hk]
  subst hy
  exact ⟨hn, hc, hm⟩
theorem init_of {C : String} {y : Addr} {e : Entry} (hk : e.kind = .init C) (hn : e.name = C ++ ".__init__") (hy : c.icl C = y) (hg : mg (Str.ofString C) = some (.ref y)) (hm : Mk K y e.fa) : Found K mg c e := by
  unfold Found
  rw [hk]
  subst hy
  exact ⟨hn, hg, hm⟩
theorem fn_at {e : Entry} (hk : e.kind = .fn) (hg : mg (Str.ofString e.name) = some (.ref e.fa)) : Found K mg c e := by
  unfold Found
  rw [hk]
  exact hg
end
end OI

namespace OI
open PySem PySem.Spec PyProof.Rows L2
theorem pure_law : ∀ ns : List Int, ns.length ≤ 63 → (∀ z ∈ ns, Builtin.Int.intBits z ≤ 1048576) → ∃ s, run prog 1000000 100 "law" [.scr ns] [] = .ok (.val (.bl true)) s := Y.pure_law
/-! ### its text in the row -/
def topS (i : Nat) : Stmt := PySem.Challenge.pw_numbergaps_k04_states_and_gaps.main.body.getD i (.Pass ⟨0, 0, 0, 0⟩)
def tab : Tab := { fns := [("state_in", 2), ("state_of", 2), ("gaps", 1), ("_law_start", 1), ("_law_drawn", 2), ("_law_same", 2), ("_law_office", 2), ("_law_holder", 2), ("_law_lent", 3), ("_law_reported", 3), ("_law_found", 2), ("_law_settled", 3), ("_law_due", 2), ("_law_does", 2), ("_law_told", 2), ("_law_words", 2), ("_law_deed", 3), ("_law_made", 3), ("_law_state", 2), ("_law_gaps", 1), ("law", 1)], blts := ["ValueError", "bool", "dict", "int", "isinstance", "len", "list", "max", "range", "sorted", "str", "tuple", "zip"], mths := [("Office", "desk_of", 2), ("Office", "going", 2), ("Office", "need_number", 2), ("Office", "holder", 2), ("Office", "is_free", 2), ("Office", "lend", 3), ("Office", "report", 3), ("Office", "back", 2), ("Office", "stop", 2), ("Office", "found", 2), ("Office", "settle", 3)], news := [("Desk", 1), ("Office", 3)], flds := ["desks", "goes", "low", "lying", "seen", "top", "words"], exs := ["GapError", "NoOffice", "NoDesk", "Stopped", "NoRoom", "NoCount", "NoWord", "Short", "NoNumber", "Twice", "NotThere", "NoWorld", "NoBox"], glbs := [("MOST_TOP", .int 400), ("MOST_DESKS", .int 6), ("WORDS", .tup [.str "paper", .str "spoilt"])] }
abbrev st_state_in : Stmt := topS 2
def N_state_in : List Str := ["office", "number", "holder", "desk"]
theorem sc_state_in : FnScope N_state_in ["office", "number"] (defScope st_state_in) := ⟨rfl, rfl, rfl, by decide +kernel, rfl, by decide +kernel, by decide +kernel⟩
set_option maxRecDepth 100000 in
theorem ck_state_in : chkSs ⟨N_state_in, defScope st_state_in, tab, false⟩ f_state_in.body (defBody st_state_in) = true := by decide +kernel
abbrev st_state_of : Stmt := topS 3
def N_state_of : List Str := ["office", "number"]
theorem sc_state_of : FnScope N_state_of ["office", "number"] (defScope st_state_of) := ⟨rfl, rfl, rfl, by decide +kernel, rfl, by decide +kernel, by decide +kernel⟩
set_option maxRecDepth 100000 in
theorem ck_state_of : chkSs ⟨N_state_of, defScope st_state_of, tab, false⟩ f_state_of.body (defBody st_state_of) = true := by decide +kernel
abbrev st_gaps : Stmt := topS 4
def N_gaps : List Str := ["office", "states", "number", "greatest", "word", "found"]
theorem sc_gaps : FnScope N_gaps ["office"] (defScope st_gaps) := ⟨rfl, rfl, rfl, by decide +kernel, rfl, by decide +kernel, by decide +kernel⟩
set_option maxRecDepth 100000 in
theorem ck_gaps : chkSs ⟨N_gaps, defScope st_gaps, tab, false⟩ f_gaps.body (defBody st_gaps) = true := by decide +kernel
abbrev st_Desk_init : Stmt := inClass (topS 23) 0
def N_Desk_init : List Str := ["self"]
theorem sc_Desk_init : FnScope N_Desk_init ["self"] (defScope st_Desk_init) := ⟨rfl, rfl, rfl, by decide +kernel, rfl, by decide +kernel, by decide +kernel⟩
set_option maxRecDepth 100000 in
theorem ck_Desk_init : chkSs ⟨N_Desk_init, defScope st_Desk_init, tab, false⟩ f_Desk_init.body (defBody st_Desk_init) = true := by decide +kernel
abbrev st_Office_init : Stmt := inClass (topS 24) 0
def N_Office_init : List Str := ["self", "top", "desks", "desk"]
theorem sc_Office_init : FnScope N_Office_init ["self", "top", "desks"] (defScope st_Office_init) := ⟨rfl, rfl, rfl, by decide +kernel, rfl, by decide +kernel, by decide +kernel⟩
set_option maxRecDepth 100000 in
theorem ck_Office_init : chkSs ⟨N_Office_init, defScope st_Office_init, tab, false⟩ f_Office_init.body (defBody st_Office_init) = true := by decide +kernel
abbrev st_Office_desk_of : Stmt := inClass (topS 24) 1
def N_Office_desk_of : List Str := ["self", "desk"]
theorem sc_Office_desk_of : FnScope N_Office_desk_of ["self", "desk"] (defScope st_Office_desk_of) := ⟨rfl, rfl, rfl, by decide +kernel, rfl, by decide +kernel, by decide +kernel⟩
set_option maxRecDepth 100000 in
theorem ck_Office_desk_of : chkSs ⟨N_Office_desk_of, defScope st_Office_desk_of, tab, false⟩ f_Office_desk_of.body (defBody st_Office_desk_of) = true := by decide +kernel
abbrev st_Office_going : Stmt := inClass (topS 24) 2
def N_Office_going : List Str := ["self", "desk", "found"]
theorem sc_Office_going : FnScope N_Office_going ["self", "desk"] (defScope st_Office_going) := ⟨rfl, rfl, rfl, by decide +kernel, rfl, by decide +kernel, by decide +kernel⟩
set_option maxRecDepth 100000 in
theorem ck_Office_going : chkSs ⟨N_Office_going, defScope st_Office_going, tab, false⟩ f_Office_going.body (defBody st_Office_going) = true := by decide +kernel
abbrev st_Office_need_number : Stmt := inClass (topS 24) 3
def N_Office_need_number : List Str := ["self", "number"]
theorem sc_Office_need_number : FnScope N_Office_need_number ["self", "number"] (defScope st_Office_need_number) := ⟨rfl, rfl, rfl, by decide +kernel, rfl, by decide +kernel, by decide +kernel⟩
set_option maxRecDepth 100000 in
theorem ck_Office_need_number : chkSs ⟨N_Office_need_number, defScope st_Office_need_number, tab, false⟩ f_Office_need_number.body (defBody st_Office_need_number) = true := by decide +kernel
abbrev st_Office_holder : Stmt := inClass (topS 24) 4
def N_Office_holder : List Str := ["self", "number", "desk"]
theorem sc_Office_holder : FnScope N_Office_holder ["self", "number"] (defScope st_Office_holder) := ⟨rfl, rfl, rfl, by decide +kernel, rfl, by decide +kernel, by decide +kernel⟩
set_option maxRecDepth 100000 in
theorem ck_Office_holder : chkSs ⟨N_Office_holder, defScope st_Office_holder, tab, false⟩ f_Office_holder.body (defBody st_Office_holder) = true := by decide +kernel
abbrev st_Office_is_free : Stmt := inClass (topS 24) 5
def N_Office_is_free : List Str := ["self", "number"]
theorem sc_Office_is_free : FnScope N_Office_is_free ["self", "number"] (defScope st_Office_is_free) := ⟨rfl, rfl, rfl, by decide +kernel, rfl, by decide +kernel, by decide +kernel⟩
set_option maxRecDepth 100000 in
theorem ck_Office_is_free : chkSs ⟨N_Office_is_free, defScope st_Office_is_free, tab, false⟩ f_Office_is_free.body (defBody st_Office_is_free) = true := by decide +kernel
abbrev st_Office_lend : Stmt := inClass (topS 24) 6
def N_Office_lend : List Str := ["self", "desk", "many", "found", "run", "number"]
theorem sc_Office_lend : FnScope N_Office_lend ["self", "desk", "many"] (defScope st_Office_lend) := ⟨rfl, rfl, rfl, by decide +kernel, rfl, by decide +kernel, by decide +kernel⟩
set_option maxRecDepth 100000 in
theorem ck_Office_lend : chkSs ⟨N_Office_lend, defScope st_Office_lend, tab, false⟩ f_Office_lend.body (defBody st_Office_lend) = true := by decide +kernel
abbrev st_Office_report : Stmt := inClass (topS 24) 7
def N_Office_report : List Str := ["self", "desk", "words", "found", "word", "told", "number"]
theorem sc_Office_report : FnScope N_Office_report ["self", "desk", "words"] (defScope st_Office_report) := ⟨rfl, rfl, rfl, by decide +kernel, rfl, by decide +kernel, by decide +kernel⟩
set_option maxRecDepth 100000 in
theorem ck_Office_report : chkSs ⟨N_Office_report, defScope st_Office_report, tab, false⟩ f_Office_report.body (defBody st_Office_report) = true := by decide +kernel
abbrev st_Office_back : Stmt := inClass (topS 24) 8
def N_Office_back : List Str := ["self", "desk", "found", "told"]
theorem sc_Office_back : FnScope N_Office_back ["self", "desk"] (defScope st_Office_back) := ⟨rfl, rfl, rfl, by decide +kernel, rfl, by decide +kernel, by decide +kernel⟩
set_option maxRecDepth 100000 in
theorem ck_Office_back : chkSs ⟨N_Office_back, defScope st_Office_back, tab, false⟩ f_Office_back.body (defBody st_Office_back) = true := by decide +kernel
abbrev st_Office_stop : Stmt := inClass (topS 24) 9
def N_Office_stop : List Str := ["self", "desk", "found"]
theorem sc_Office_stop : FnScope N_Office_stop ["self", "desk"] (defScope st_Office_stop) := ⟨rfl, rfl, rfl, by decide +kernel, rfl, by decide +kernel, by decide +kernel⟩
set_option maxRecDepth 100000 in
theorem ck_Office_stop : chkSs ⟨N_Office_stop, defScope st_Office_stop, tab, false⟩ f_Office_stop.body (defBody st_Office_stop) = true := by decide +kernel
abbrev st_Office_found : Stmt := inClass (topS 24) 10
def N_Office_found : List Str := ["self", "number", "holder", "desk"]
theorem sc_Office_found : FnScope N_Office_found ["self", "number"] (defScope st_Office_found) := ⟨rfl, rfl, rfl, by decide +kernel, rfl, by decide +kernel, by decide +kernel⟩
set_option maxRecDepth 100000 in
theorem ck_Office_found : chkSs ⟨N_Office_found, defScope st_Office_found, tab, false⟩ f_Office_found.body (defBody st_Office_found) = true := by decide +kernel
abbrev st_Office_settle : Stmt := inClass (topS 24) 11
def N_Office_settle : List Str := ["self", "desk", "many", "found", "number", "told"]
theorem sc_Office_settle : FnScope N_Office_settle ["self", "desk", "many"] (defScope st_Office_settle) := ⟨rfl, rfl, rfl, by decide +kernel, rfl, by decide +kernel, by decide +kernel⟩
set_option maxRecDepth 100000 in
theorem ck_Office_settle : chkSs ⟨N_Office_settle, defScope st_Office_settle, tab, false⟩ f_Office_settle.body (defBody st_Office_settle) = true := by decide +kernel
abbrev st__law_start : Stmt := topS 26
def N__law_start : List Str := ["_law_script", "_law_mixed", "_law_cell"]
theorem sc__law_start : FnScope N__law_start ["_law_script"] (defScope st__law_start) := ⟨rfl, rfl, rfl, by decide +kernel, rfl, by decide +kernel, by decide +kernel⟩
set_option maxRecDepth 100000 in
theorem ck__law_start : chkSs ⟨N__law_start, defScope st__law_start, tab, false⟩ f__law_start.body (defBody st__law_start) = true := by decide +kernel
abbrev st__law_drawn : Stmt := topS 27
def N__law_drawn : List Str := ["_law_state_here", "_law_many", "_law_found_here", "_law_cell"]
theorem sc__law_drawn : FnScope N__law_drawn ["_law_state_here", "_law_many"] (defScope st__law_drawn) := ⟨rfl, rfl, rfl, by decide +kernel, rfl, by decide +kernel, by decide +kernel⟩
set_option maxRecDepth 100000 in
theorem ck__law_drawn : chkSs ⟨N__law_drawn, defScope st__law_drawn, tab, false⟩ f__law_drawn.body (defBody st__law_drawn) = true := by decide +kernel
abbrev st__law_same : Stmt := topS 28
def N__law_same : List Str := ["_law_found_here", "_law_due_here", "_law_k"]
theorem sc__law_same : FnScope N__law_same ["_law_found_here", "_law_due_here"] (defScope st__law_same) := ⟨rfl, rfl, rfl, by decide +kernel, rfl, by decide +kernel, by decide +kernel⟩
set_option maxRecDepth 100000 in
theorem ck__law_same : chkSs ⟨N__law_same, defScope st__law_same, tab, false⟩ f__law_same.body (defBody st__law_same) = true := by decide +kernel
abbrev st__law_office : Stmt := topS 29
def N__law_office : List Str := ["_law_top", "_law_desks", "_law_found_here", "_law_k"]
theorem sc__law_office : FnScope N__law_office ["_law_top", "_law_desks"] (defScope st__law_office) := ⟨rfl, rfl, rfl, by decide +kernel, rfl, by decide +kernel, by decide +kernel⟩
set_option maxRecDepth 100000 in
theorem ck__law_office : chkSs ⟨N__law_office, defScope st__law_office, tab, false⟩ f__law_office.body (defBody st__law_office) = true := by decide +kernel
abbrev st__law_holder : Stmt := topS 30
def N__law_holder : List Str := ["_law_m", "_law_number", "_law_desk"]
theorem sc__law_holder : FnScope N__law_holder ["_law_m", "_law_number"] (defScope st__law_holder) := ⟨rfl, rfl, rfl, by decide +kernel, rfl, by decide +kernel, by decide +kernel⟩
set_option maxRecDepth 100000 in
theorem ck__law_holder : chkSs ⟨N__law_holder, defScope st__law_holder, tab, false⟩ f__law_holder.body (defBody st__law_holder) = true := by decide +kernel
abbrev st__law_lent : Stmt := topS 31
def N__law_lent : List Str := ["_law_m", "_law_desk", "_law_many", "_law_taken", "_law_row", "_law_number", "_law_first", "_law_block"]
theorem sc__law_lent : FnScope N__law_lent ["_law_m", "_law_desk", "_law_many"] (defScope st__law_lent) := ⟨rfl, rfl, rfl, by decide +kernel, rfl, by decide +kernel, by decide +kernel⟩
set_option maxRecDepth 100000 in
theorem ck__law_lent : chkSs ⟨N__law_lent, defScope st__law_lent, tab, false⟩ f__law_lent.body (defBody st__law_lent) = true := by decide +kernel
abbrev st__law_reported : Stmt := topS 32
def N__law_reported : List Str := ["_law_m", "_law_desk", "_law_words_here", "_law_word", "_law_row", "_law_k"]
theorem sc__law_reported : FnScope N__law_reported ["_law_m", "_law_desk", "_law_words_here"] (defScope st__law_reported) := ⟨rfl, rfl, rfl, by decide +kernel, rfl, by decide +kernel, by decide +kernel⟩
set_option maxRecDepth 100000 in
theorem ck__law_reported : chkSs ⟨N__law_reported, defScope st__law_reported, tab, false⟩ f__law_reported.body (defBody st__law_reported) = true := by decide +kernel
abbrev st__law_found : Stmt := topS 33
def N__law_found : List Str := ["_law_m", "_law_number", "_law_desk"]
theorem sc__law_found : FnScope N__law_found ["_law_m", "_law_number"] (defScope st__law_found) := ⟨rfl, rfl, rfl, by decide +kernel, rfl, by decide +kernel, by decide +kernel⟩
set_option maxRecDepth 100000 in
theorem ck__law_found : chkSs ⟨N__law_found, defScope st__law_found, tab, false⟩ f__law_found.body (defBody st__law_found) = true := by decide +kernel
abbrev st__law_settled : Stmt := topS 34
def N__law_settled : List Str := ["_law_m", "_law_desk", "_law_many", "_law_row", "_law_number"]
theorem sc__law_settled : FnScope N__law_settled ["_law_m", "_law_desk", "_law_many"] (defScope st__law_settled) := ⟨rfl, rfl, rfl, by decide +kernel, rfl, by decide +kernel, by decide +kernel⟩
set_option maxRecDepth 100000 in
theorem ck__law_settled : chkSs ⟨N__law_settled, defScope st__law_settled, tab, false⟩ f__law_settled.body (defBody st__law_settled) = true := by decide +kernel
abbrev st__law_due : Stmt := topS 35
def N__law_due : List Str := ["_law_m", "_law_deed_here", "_law_desk", "_law_row"]
theorem sc__law_due : FnScope N__law_due ["_law_m", "_law_deed_here"] (defScope st__law_due) := ⟨rfl, rfl, rfl, by decide +kernel, rfl, by decide +kernel, by decide +kernel⟩
set_option maxRecDepth 100000 in
theorem ck__law_due : chkSs ⟨N__law_due, defScope st__law_due, tab, false⟩ f__law_due.body (defBody st__law_due) = true := by decide +kernel
abbrev st__law_does : Stmt := topS 36
def N__law_does : List Str := ["_law_office_here", "_law_deed_here"]
theorem sc__law_does : FnScope N__law_does ["_law_office_here", "_law_deed_here"] (defScope st__law_does) := ⟨rfl, rfl, rfl, by decide +kernel, rfl, by decide +kernel, by decide +kernel⟩
set_option maxRecDepth 100000 in
theorem ck__law_does : chkSs ⟨N__law_does, defScope st__law_does, tab, false⟩ f__law_does.body (defBody st__law_does) = true := by decide +kernel
abbrev st__law_told : Stmt := topS 37
def N__law_told : List Str := ["_law_office_here", "_law_deed_here", "e", "_law_words_here", "_law_kinds"]
theorem sc__law_told : FnScope N__law_told ["_law_office_here", "_law_deed_here"] (defScope st__law_told) := ⟨rfl, rfl, rfl, by decide +kernel, rfl, by decide +kernel, by decide +kernel⟩
set_option maxRecDepth 100000 in
theorem ck__law_told : chkSs ⟨N__law_told, defScope st__law_told, tab, false⟩ f__law_told.body (defBody st__law_told) = true := by decide +kernel
abbrev st__law_words : Stmt := topS 39
def N__law_words : List Str := ["_law_state_here", "_law_many", "_law_k"]
theorem sc__law_words : FnScope N__law_words ["_law_state_here", "_law_many"] (defScope st__law_words) := ⟨rfl, rfl, rfl, by decide +kernel, rfl, by decide +kernel, by decide +kernel⟩
set_option maxRecDepth 100000 in
theorem ck__law_words : chkSs ⟨N__law_words, defScope st__law_words, tab, false⟩ f__law_words.body (defBody st__law_words) = true := by decide +kernel
abbrev st__law_deed : Stmt := topS 40
def N__law_deed : List Str := ["_law_state_here", "_law_m", "_law_wide", "_law_desk", "_law_row", "_law_way"]
theorem sc__law_deed : FnScope N__law_deed ["_law_state_here", "_law_m", "_law_wide"] (defScope st__law_deed) := ⟨rfl, rfl, rfl, by decide +kernel, rfl, by decide +kernel, by decide +kernel⟩
set_option maxRecDepth 100000 in
theorem ck__law_deed : chkSs ⟨N__law_deed, defScope st__law_deed, tab, false⟩ f__law_deed.body (defBody st__law_deed) = true := by decide +kernel
abbrev st__law_made : Stmt := topS 41
def N__law_made : List Str := ["_law_state_here", "_law_wide", "_law_most", "_law_top", "_law_desks", "_law_office_here", "_law_m", "_law_turn", "_law_deed_here"]
theorem sc__law_made : FnScope N__law_made ["_law_state_here", "_law_wide", "_law_most"] (defScope st__law_made) := ⟨rfl, rfl, rfl, by decide +kernel, rfl, by decide +kernel, by decide +kernel⟩
set_option maxRecDepth 100000 in
theorem ck__law_made : chkSs ⟨N__law_made, defScope st__law_made, tab, false⟩ f__law_made.body (defBody st__law_made) = true := by decide +kernel
abbrev st__law_state : Stmt := topS 42
def N__law_state : List Str := ["_law_m", "_law_number", "_law_desk"]
theorem sc__law_state : FnScope N__law_state ["_law_m", "_law_number"] (defScope st__law_state) := ⟨rfl, rfl, rfl, by decide +kernel, rfl, by decide +kernel, by decide +kernel⟩
set_option maxRecDepth 100000 in
theorem ck__law_state : chkSs ⟨N__law_state, defScope st__law_state, tab, false⟩ f__law_state.body (defBody st__law_state) = true := by decide +kernel
abbrev st__law_gaps : Stmt := topS 43
def N__law_gaps : List Str := ["_law_m", "_law_greatest", "_law_found_here", "_law_number", "_law_word"]
theorem sc__law_gaps : FnScope N__law_gaps ["_law_m"] (defScope st__law_gaps) := ⟨rfl, rfl, rfl, by decide +kernel, rfl, by decide +kernel, by decide +kernel⟩
set_option maxRecDepth 100000 in
theorem ck__law_gaps : chkSs ⟨N__law_gaps, defScope st__law_gaps, tab, false⟩ f__law_gaps.body (defBody st__law_gaps) = true := by decide +kernel
abbrev st_law : Stmt := topS 44
def N_law : List Str := ["_law_script", "_law_draws", "_law_found_here", "_law_office_here", "_law_m", "_law_turn", "_law_number", "_law_again", "_law_told_here", "_law_deed_here"]
theorem sc_law : FnScope N_law ["_law_script"] (defScope st_law) := ⟨rfl, rfl, rfl, by decide +kernel, rfl, by decide +kernel, by decide +kernel⟩
set_option maxRecDepth 100000 in
theorem ck_law : chkSs ⟨N_law, defScope st_law, tab, false⟩ f_law.body (defBody st_law) = true := by decide +kernel
def cn (K : PySem.W.Frag) (x0 x1 x2 x3 x4 x5 x6 x7 x8 x9 x10 x11 x12 y0 y1 : Addr) : Cn := { K := K, cls := pick [("GapError", x0), ("NoOffice", x1), ("NoDesk", x2), ("Stopped", x3), ("NoRoom", x4), ("NoCount", x5), ("NoWord", x6), ("Short", x7), ("NoNumber", x8), ("Twice", x9), ("NotThere", x10), ("NoWorld", x11), ("NoBox", x12)] 0, icl := pick [("Desk", y0), ("Office", y1)] y0, exn := none }
def spLaw (K : PySem.W.Frag) : Sp := fun vs H Q E => ∀ c : Cn, c.K = K → spF c (run prog 1000000 100) "law" 1 vs H Q E
set_option maxHeartbeats 4000000 in
theorem all_mk {l : PySem.W.OpenLaw} {w : World} {K : PySem.W.Frag} {h : Heap} {mg : Str → Option Value} {fa x0 x1 x2 x3 x4 x5 x6 x7 x8 x9 x10 x11 x12 y0 y1 f0 f1 f2 f3 f4 f5 f6 f7 f8 f9 f10 f11 f12 f13 f14 f15 f16 f17 f18 f19 f20 f21 f22 f23 f24 f25 f26 f27 f28 f29 f30 f31 f32 f33 : Addr} (X : K.In h) (G : h.Ns mainGlobals mg) (hfa : mg "law" = some (.ref fa))
    (ea0 : PySem.W.nsIn K mainGlobals "GapError" = some (some (.ref x0)))
    (eb0 : PySem.W.keepIn K (.ref x0) = true)
    (ec0 : PySem.W.excIn K x0 [.type "ValueError", .type "Exception", .type "BaseException", .type "object"] "ValueError.__new__" = true)
    (ed0 : PySem.W.subIn K (.ref x0) (.type "BaseException") = some true)
    (ee0 : PySem.W.subIn K (.ref x0) (.type "ValueError") = some true)
    (ef0 : PySem.W.typeIn K (.ref x0) = some (.type "type"))
    (eg0 : PySem.W.findIn K (.ref x0) "__getattribute__" = some (some (.builtin "BaseException.__getattribute__")))
    (eh0 : PySem.W.findIn K (.ref x0) "__getattr__" = some none)
    (ei0 : PySem.W.hasDictIn K x0 = true)
    (ej0 : PySem.W.findIn K (.ref x0) "__class__" = some (some (.builtin "object.__class__")))
    (ek0 : PySem.W.mroIn K x0 (.type "object") = some true)
    (ea1 : PySem.W.nsIn K mainGlobals "NoOffice" = some (some (.ref x1)))
    (eb1 : PySem.W.keepIn K (.ref x1) = true)
    (ec1 : PySem.W.excIn K x1 [.type "ValueError", .type "Exception", .type "BaseException", .type "object"] "ValueError.__new__" = true)
    (ed1 : PySem.W.subIn K (.ref x1) (.type "BaseException") = some true)
    (ee1 : PySem.W.subIn K (.ref x1) (.type "ValueError") = some true)
    (ef1 : PySem.W.typeIn K (.ref x1) = some (.type "type"))
    (eg1 : PySem.W.findIn K (.ref x1) "__getattribute__" = some (some (.builtin "BaseException.__getattribute__")))
    (eh1 : PySem.W.findIn K (.ref x1) "__getattr__" = some none)
    (ei1 : PySem.W.hasDictIn K x1 = true)
    (ej1 : PySem.W.findIn K (.ref x1) "__class__" = some (some (.builtin "object.__class__")))
    (ek1 : PySem.W.mroIn K x1 (.type "object") = some true)
    (ea2 : PySem.W.nsIn K mainGlobals "NoDesk" = some (some (.ref x2)))
    (eb2 : PySem.W.keepIn K (.ref x2) = true)
    (ec2 : PySem.W.excIn K x2 [.type "ValueError", .type "Exception", .type "BaseException", .type "object"] "ValueError.__new__" = true)
    (ed2 : PySem.W.subIn K (.ref x2) (.type "BaseException") = some true)
    (ee2 : PySem.W.subIn K (.ref x2) (.type "ValueError") = some true)
    (ef2 : PySem.W.typeIn K (.ref x2) = some (.type "type"))
    (eg2 : PySem.W.findIn K (.ref x2) "__getattribute__" = some (some (.builtin "BaseException.__getattribute__")))
    (eh2 : PySem.W.findIn K (.ref x2) "__getattr__" = some none)
    (ei2 : PySem.W.hasDictIn K x2 = true)
    (ej2 : PySem.W.findIn K (.ref x2) "__class__" = some (some (.builtin "object.__class__")))
    (ek2 : PySem.W.mroIn K x2 (.type "object") = some true)
    (ea3 : PySem.W.nsIn K mainGlobals "Stopped" = some (some (.ref x3)))
    (eb3 : PySem.W.keepIn K (.ref x3) = true)
    (ec3 : PySem.W.excIn K x3 [.type "ValueError", .type "Exception", .type "BaseException", .type "object"] "ValueError.__new__" = true)
    (ed3 : PySem.W.subIn K (.ref x3) (.type "BaseException") = some true)
    (ee3 : PySem.W.subIn K (.ref x3) (.type "ValueError") = some true)
    (ef3 : PySem.W.typeIn K (.ref x3) = some (.type "type"))
    (eg3 : PySem.W.findIn K (.ref x3) "__getattribute__" = some (some (.builtin "BaseException.__getattribute__")))
    (eh3 : PySem.W.findIn K (.ref x3) "__getattr__" = some none)
    (ei3 : PySem.W.hasDictIn K x3 = true)
    (ej3 : PySem.W.findIn K (.ref x3) "__class__" = some (some (.builtin "object.__class__")))
    (ek3 : PySem.W.mroIn K x3 (.type "object") = some true)
    (ea4 : PySem.W.nsIn K mainGlobals "NoRoom" = some (some (.ref x4)))
    (eb4 : PySem.W.keepIn K (.ref x4) = true)
    (ec4 : PySem.W.excIn K x4 [.type "ValueError", .type "Exception", .type "BaseException", .type "object"] "ValueError.__new__" = true)
    (ed4 : PySem.W.subIn K (.ref x4) (.type "BaseException") = some true)
    (ee4 : PySem.W.subIn K (.ref x4) (.type "ValueError") = some true)
    (ef4 : PySem.W.typeIn K (.ref x4) = some (.type "type"))
    (eg4 : PySem.W.findIn K (.ref x4) "__getattribute__" = some (some (.builtin "BaseException.__getattribute__")))
    (eh4 : PySem.W.findIn K (.ref x4) "__getattr__" = some none)
    (ei4 : PySem.W.hasDictIn K x4 = true)
    (ej4 : PySem.W.findIn K (.ref x4) "__class__" = some (some (.builtin "object.__class__")))
    (ek4 : PySem.W.mroIn K x4 (.type "object") = some true)
    (ea5 : PySem.W.nsIn K mainGlobals "NoCount" = some (some (.ref x5)))
    (eb5 : PySem.W.keepIn K (.ref x5) = true)
    (ec5 : PySem.W.excIn K x5 [.type "ValueError", .type "Exception", .type "BaseException", .type "object"] "ValueError.__new__" = true)
    (ed5 : PySem.W.subIn K (.ref x5) (.type "BaseException") = some true)
    (ee5 : PySem.W.subIn K (.ref x5) (.type "ValueError") = some true)
    (ef5 : PySem.W.typeIn K (.ref x5) = some (.type "type"))
    (eg5 : PySem.W.findIn K (.ref x5) "__getattribute__" = some (some (.builtin "BaseException.__getattribute__")))
    (eh5 : PySem.W.findIn K (.ref x5) "__getattr__" = some none)
    (ei5 : PySem.W.hasDictIn K x5 = true)
    (ej5 : PySem.W.findIn K (.ref x5) "__class__" = some (some (.builtin "object.__class__")))
    (ek5 : PySem.W.mroIn K x5 (.type "object") = some true)
    (ea6 : PySem.W.nsIn K mainGlobals "NoWord" = some (some (.ref x6)))
    (eb6 : PySem.W.keepIn K (.ref x6) = true)
    (ec6 : PySem.W.excIn K x6 [.type "ValueError", .type "Exception", .type "BaseException", .type "object"] "ValueError.__new__" = true)
    (ed6 : PySem.W.subIn K (.ref x6) (.type "BaseException") = some true)
    (ee6 : PySem.W.subIn K (.ref x6) (.type "ValueError") = some true)
    (ef6 : PySem.W.typeIn K (.ref x6) = some (.type "type"))
    (eg6 : PySem.W.findIn K (.ref x6) "__getattribute__" = some (some (.builtin "BaseException.__getattribute__")))
    (eh6 : PySem.W.findIn K (.ref x6) "__getattr__" = some none)
    (ei6 : PySem.W.hasDictIn K x6 = true)
    (ej6 : PySem.W.findIn K (.ref x6) "__class__" = some (some (.builtin "object.__class__")))
    (ek6 : PySem.W.mroIn K x6 (.type "object") = some true)
    (ea7 : PySem.W.nsIn K mainGlobals "Short" = some (some (.ref x7)))
    (eb7 : PySem.W.keepIn K (.ref x7) = true)
    (ec7 : PySem.W.excIn K x7 [.type "ValueError", .type "Exception", .type "BaseException", .type "object"] "ValueError.__new__" = true)
    (ed7 : PySem.W.subIn K (.ref x7) (.type "BaseException") = some true)
    (ee7 : PySem.W.subIn K (.ref x7) (.type "ValueError") = some true)
    (ef7 : PySem.W.typeIn K (.ref x7) = some (.type "type"))
    (eg7 : PySem.W.findIn K (.ref x7) "__getattribute__" = some (some (.builtin "BaseException.__getattribute__")))
    (eh7 : PySem.W.findIn K (.ref x7) "__getattr__" = some none)
    (ei7 : PySem.W.hasDictIn K x7 = true)
    (ej7 : PySem.W.findIn K (.ref x7) "__class__" = some (some (.builtin "object.__class__")))
    (ek7 : PySem.W.mroIn K x7 (.type "object") = some true)
    (ea8 : PySem.W.nsIn K mainGlobals "NoNumber" = some (some (.ref x8)))
    (eb8 : PySem.W.keepIn K (.ref x8) = true)
    (ec8 : PySem.W.excIn K x8 [.type "ValueError", .type "Exception", .type "BaseException", .type "object"] "ValueError.__new__" = true)
    (ed8 : PySem.W.subIn K (.ref x8) (.type "BaseException") = some true)
    (ee8 : PySem.W.subIn K (.ref x8) (.type "ValueError") = some true)
    (ef8 : PySem.W.typeIn K (.ref x8) = some (.type "type"))
    (eg8 : PySem.W.findIn K (.ref x8) "__getattribute__" = some (some (.builtin "BaseException.__getattribute__")))
    (eh8 : PySem.W.findIn K (.ref x8) "__getattr__" = some none)
    (ei8 : PySem.W.hasDictIn K x8 = true)
    (ej8 : PySem.W.findIn K (.ref x8) "__class__" = some (some (.builtin "object.__class__")))
    (ek8 : PySem.W.mroIn K x8 (.type "object") = some true)
    (ea9 : PySem.W.nsIn K mainGlobals "Twice" = some (some (.ref x9)))
    (eb9 : PySem.W.keepIn K (.ref x9) = true)
    (ec9 : PySem.W.excIn K x9 [.type "ValueError", .type "Exception", .type "BaseException", .type "object"] "ValueError.__new__" = true)
    (ed9 : PySem.W.subIn K (.ref x9) (.type "BaseException") = some true)
    (ee9 : PySem.W.subIn K (.ref x9) (.type "ValueError") = some true)
    (ef9 : PySem.W.typeIn K (.ref x9) = some (.type "type"))
    (eg9 : PySem.W.findIn K (.ref x9) "__getattribute__" = some (some (.builtin "BaseException.__getattribute__")))
    (eh9 : PySem.W.findIn K (.ref x9) "__getattr__" = some none)
    (ei9 : PySem.W.hasDictIn K x9 = true)
    (ej9 : PySem.W.findIn K (.ref x9) "__class__" = some (some (.builtin "object.__class__")))
    (ek9 : PySem.W.mroIn K x9 (.type "object") = some true)
    (ea10 : PySem.W.nsIn K mainGlobals "NotThere" = some (some (.ref x10)))
    (eb10 : PySem.W.keepIn K (.ref x10) = true)
    (ec10 : PySem.W.excIn K x10 [.type "ValueError", .type "Exception", .type "BaseException", .type "object"] "ValueError.__new__" = true)
    (ed10 : PySem.W.subIn K (.ref x10) (.type "BaseException") = some true)
    (ee10 : PySem.W.subIn K (.ref x10) (.type "ValueError") = some true)
    (ef10 : PySem.W.typeIn K (.ref x10) = some (.type "type"))
    (eg10 : PySem.W.findIn K (.ref x10) "__getattribute__" = some (some (.builtin "BaseException.__getattribute__")))
    (eh10 : PySem.W.findIn K (.ref x10) "__getattr__" = some none)
    (ei10 : PySem.W.hasDictIn K x10 = true)
    (ej10 : PySem.W.findIn K (.ref x10) "__class__" = some (some (.builtin "object.__class__")))
    (ek10 : PySem.W.mroIn K x10 (.type "object") = some true)
    (ea11 : PySem.W.nsIn K mainGlobals "NoWorld" = some (some (.ref x11)))
    (eb11 : PySem.W.keepIn K (.ref x11) = true)
    (ec11 : PySem.W.excIn K x11 [.type "ValueError", .type "Exception", .type "BaseException", .type "object"] "ValueError.__new__" = true)
    (ed11 : PySem.W.subIn K (.ref x11) (.type "BaseException") = some true)
    (ee11 : PySem.W.subIn K (.ref x11) (.type "ValueError") = some true)
    (ef11 : PySem.W.typeIn K (.ref x11) = some (.type "type"))
    (eg11 : PySem.W.findIn K (.ref x11) "__getattribute__" = some (some (.builtin "BaseException.__getattribute__")))
    (eh11 : PySem.W.findIn K (.ref x11) "__getattr__" = some none)
    (ei11 : PySem.W.hasDictIn K x11 = true)
    (ej11 : PySem.W.findIn K (.ref x11) "__class__" = some (some (.builtin "object.__class__")))
    (ek11 : PySem.W.mroIn K x11 (.type "object") = some true)
    (ea12 : PySem.W.nsIn K mainGlobals "NoBox" = some (some (.ref x12)))
    (eb12 : PySem.W.keepIn K (.ref x12) = true)
    (ec12 : PySem.W.excIn K x12 [.type "ValueError", .type "Exception", .type "BaseException", .type "object"] "ValueError.__new__" = true)
    (ed12 : PySem.W.subIn K (.ref x12) (.type "BaseException") = some true)
    (ee12 : PySem.W.subIn K (.ref x12) (.type "ValueError") = some true)
    (ef12 : PySem.W.typeIn K (.ref x12) = some (.type "type"))
    (eg12 : PySem.W.findIn K (.ref x12) "__getattribute__" = some (some (.builtin "BaseException.__getattribute__")))
    (eh12 : PySem.W.findIn K (.ref x12) "__getattr__" = some none)
    (ei12 : PySem.W.hasDictIn K x12 = true)
    (ej12 : PySem.W.findIn K (.ref x12) "__class__" = some (some (.builtin "object.__class__")))
    (ek12 : PySem.W.mroIn K x12 (.type "object") = some true)
    (el : PySem.W.specialIn K (.builtin "object.__class__") "__get__" = some (some (.builtin "getset_descriptor.__get__")))
    (em : PySem.W.takesIn K (.builtin "object.__class__") = some true)
    (s0_0 : PySem.W.subIn K (.ref x0) (.ref x0) = some true)
    (s0_1 : PySem.W.subIn K (.ref x0) (.ref x1) = some false)
    (s0_2 : PySem.W.subIn K (.ref x0) (.ref x2) = some false)
    (s0_3 : PySem.W.subIn K (.ref x0) (.ref x3) = some false)
    (s0_4 : PySem.W.subIn K (.ref x0) (.ref x4) = some false)
    (s0_5 : PySem.W.subIn K (.ref x0) (.ref x5) = some false)
    (s0_6 : PySem.W.subIn K (.ref x0) (.ref x6) = some false)
    (s0_7 : PySem.W.subIn K (.ref x0) (.ref x7) = some false)
    (s0_8 : PySem.W.subIn K (.ref x0) (.ref x8) = some false)
    (s0_9 : PySem.W.subIn K (.ref x0) (.ref x9) = some false)
    (s0_10 : PySem.W.subIn K (.ref x0) (.ref x10) = some false)
    (s0_11 : PySem.W.subIn K (.ref x0) (.ref x11) = some false)
    (s0_12 : PySem.W.subIn K (.ref x0) (.ref x12) = some false)
    (s1_0 : PySem.W.subIn K (.ref x1) (.ref x0) = some true)
    (s1_1 : PySem.W.subIn K (.ref x1) (.ref x1) = some true)
    (s1_2 : PySem.W.subIn K (.ref x1) (.ref x2) = some false)
    (s1_3 : PySem.W.subIn K (.ref x1) (.ref x3) = some false)
    (s1_4 : PySem.W.subIn K (.ref x1) (.ref x4) = some false)
    (s1_5 : PySem.W.subIn K (.ref x1) (.ref x5) = some false)
    (s1_6 : PySem.W.subIn K (.ref x1) (.ref x6) = some false)
    (s1_7 : PySem.W.subIn K (.ref x1) (.ref x7) = some false)
    (s1_8 : PySem.W.subIn K (.ref x1) (.ref x8) = some false)
    (s1_9 : PySem.W.subIn K (.ref x1) (.ref x9) = some false)
    (s1_10 : PySem.W.subIn K (.ref x1) (.ref x10) = some false)
    (s1_11 : PySem.W.subIn K (.ref x1) (.ref x11) = some false)
    (s1_12 : PySem.W.subIn K (.ref x1) (.ref x12) = some false)
    (s2_0 : PySem.W.subIn K (.ref x2) (.ref x0) = some true)
    (s2_1 : PySem.W.subIn K (.ref x2) (.ref x1) = some false)
    (s2_2 : PySem.W.subIn K (.ref x2) (.ref x2) = some true)
    (s2_3 : PySem.W.subIn K (.ref x2) (.ref x3) = some false)
    (s2_4 : PySem.W.subIn K (.ref x2) (.ref x4) = some false)
    (s2_5 : PySem.W.subIn K (.ref x2) (.ref x5) = some false)
    (s2_6 : PySem.W.subIn K (.ref x2) (.ref x6) = some false)
    (s2_7 : PySem.W.subIn K (.ref x2) (.ref x7) = some false)
    (s2_8 : PySem.W.subIn K (.ref x2) (.ref x8) = some false)
    (s2_9 : PySem.W.subIn K (.ref x2) (.ref x9) = some false)
    (s2_10 : PySem.W.subIn K (.ref x2) (.ref x10) = some false)
    (s2_11 : PySem.W.subIn K (.ref x2) (.ref x11) = some false)
    (s2_12 : PySem.W.subIn K (.ref x2) (.ref x12) = some false)
    (s3_0 : PySem.W.subIn K (.ref x3) (.ref x0) = some true)
    (s3_1 : PySem.W.subIn K (.ref x3) (.ref x1) = some false)
    (s3_2 : PySem.W.subIn K (.ref x3) (.ref x2) = some false)
    (s3_3 : PySem.W.subIn K (.ref x3) (.ref x3) = some true)
    (s3_4 : PySem.W.subIn K (.ref x3) (.ref x4) = some false)
    (s3_5 : PySem.W.subIn K (.ref x3) (.ref x5) = some false)
    (s3_6 : PySem.W.subIn K (.ref x3) (.ref x6) = some false)
    (s3_7 : PySem.W.subIn K (.ref x3) (.ref x7) = some false)
    (s3_8 : PySem.W.subIn K (.ref x3) (.ref x8) = some false)
    (s3_9 : PySem.W.subIn K (.ref x3) (.ref x9) = some false)
    (s3_10 : PySem.W.subIn K (.ref x3) (.ref x10) = some false)
    (s3_11 : PySem.W.subIn K (.ref x3) (.ref x11) = some false)
    (s3_12 : PySem.W.subIn K (.ref x3) (.ref x12) = some false)
    (s4_0 : PySem.W.subIn K (.ref x4) (.ref x0) = some true)
    (s4_1 : PySem.W.subIn K (.ref x4) (.ref x1) = some false)
    (s4_2 : PySem.W.subIn K (.ref x4) (.ref x2) = some false)
    (s4_3 : PySem.W.subIn K (.ref x4) (.ref x3) = some false)
    (s4_4 : PySem.W.subIn K (.ref x4) (.ref x4) = some true)
    (s4_5 : PySem.W.subIn K (.ref x4) (.ref x5) = some false)
    (s4_6 : PySem.W.subIn K (.ref x4) (.ref x6) = some false)
    (s4_7 : PySem.W.subIn K (.ref x4) (.ref x7) = some false)
    (s4_8 : PySem.W.subIn K (.ref x4) (.ref x8) = some false)
    (s4_9 : PySem.W.subIn K (.ref x4) (.ref x9) = some false)
    (s4_10 : PySem.W.subIn K (.ref x4) (.ref x10) = some false)
    (s4_11 : PySem.W.subIn K (.ref x4) (.ref x11) = some false)
    (s4_12 : PySem.W.subIn K (.ref x4) (.ref x12) = some false)
    (s5_0 : PySem.W.subIn K (.ref x5) (.ref x0) = some true)
    (s5_1 : PySem.W.subIn K (.ref x5) (.ref x1) = some false)
    (s5_2 : PySem.W.subIn K (.ref x5) (.ref x2) = some false)
    (s5_3 : PySem.W.subIn K (.ref x5) (.ref x3) = some false)
    (s5_4 : PySem.W.subIn K (.ref x5) (.ref x4) = some false)
    (s5_5 : PySem.W.subIn K (.ref x5) (.ref x5) = some true)
    (s5_6 : PySem.W.subIn K (.ref x5) (.ref x6) = some false)
    (s5_7 : PySem.W.subIn K (.ref x5) (.ref x7) = some false)
    (s5_8 : PySem.W.subIn K (.ref x5) (.ref x8) = some false)
    (s5_9 : PySem.W.subIn K (.ref x5) (.ref x9) = some false)
    (s5_10 : PySem.W.subIn K (.ref x5) (.ref x10) = some false)
    (s5_11 : PySem.W.subIn K (.ref x5) (.ref x11) = some false)
    (s5_12 : PySem.W.subIn K (.ref x5) (.ref x12) = some false)
    (s6_0 : PySem.W.subIn K (.ref x6) (.ref x0) = some true)
    (s6_1 : PySem.W.subIn K (.ref x6) (.ref x1) = some false)
    (s6_2 : PySem.W.subIn K (.ref x6) (.ref x2) = some false)
    (s6_3 : PySem.W.subIn K (.ref x6) (.ref x3) = some false)
    (s6_4 : PySem.W.subIn K (.ref x6) (.ref x4) = some false)
    (s6_5 : PySem.W.subIn K (.ref x6) (.ref x5) = some false)
    (s6_6 : PySem.W.subIn K (.ref x6) (.ref x6) = some true)
    (s6_7 : PySem.W.subIn K (.ref x6) (.ref x7) = some false)
    (s6_8 : PySem.W.subIn K (.ref x6) (.ref x8) = some false)
    (s6_9 : PySem.W.subIn K (.ref x6) (.ref x9) = some false)
    (s6_10 : PySem.W.subIn K (.ref x6) (.ref x10) = some false)
    (s6_11 : PySem.W.subIn K (.ref x6) (.ref x11) = some false)
    (s6_12 : PySem.W.subIn K (.ref x6) (.ref x12) = some false)
    (s7_0 : PySem.W.subIn K (.ref x7) (.ref x0) = some true)
    (s7_1 : PySem.W.subIn K (.ref x7) (.ref x1) = some false)
    (s7_2 : PySem.W.subIn K (.ref x7) (.ref x2) = some false)
    (s7_3 : PySem.W.subIn K (.ref x7) (.ref x3) = some false)
    (s7_4 : PySem.W.subIn K (.ref x7) (.ref x4) = some false)
    (s7_5 : PySem.W.subIn K (.ref x7) (.ref x5) = some false)
    (s7_6 : PySem.W.subIn K (.ref x7) (.ref x6) = some false)
    (s7_7 : PySem.W.subIn K (.ref x7) (.ref x7) = some true)
    (s7_8 : PySem.W.subIn K (.ref x7) (.ref x8) = some false)
    (s7_9 : PySem.W.subIn K (.ref x7) (.ref x9) = some false)
    (s7_10 : PySem.W.subIn K (.ref x7) (.ref x10) = some false)
    (s7_11 : PySem.W.subIn K (.ref x7) (.ref x11) = some false)
    (s7_12 : PySem.W.subIn K (.ref x7) (.ref x12) = some false)
    (s8_0 : PySem.W.subIn K (.ref x8) (.ref x0) = some true)
    (s8_1 : PySem.W.subIn K (.ref x8) (.ref x1) = some false)
    (s8_2 : PySem.W.subIn K (.ref x8) (.ref x2) = some false)
    (s8_3 : PySem.W.subIn K (.ref x8) (.ref x3) = some false)
    (s8_4 : PySem.W.subIn K (.ref x8) (.ref x4) = some false)
    (s8_5 : PySem.W.subIn K (.ref x8) (.ref x5) = some false)
    (s8_6 : PySem.W.subIn K (.ref x8) (.ref x6) = some false)
    (s8_7 : PySem.W.subIn K (.ref x8) (.ref x7) = some false)
    (s8_8 : PySem.W.subIn K (.ref x8) (.ref x8) = some true)
    (s8_9 : PySem.W.subIn K (.ref x8) (.ref x9) = some false)
    (s8_10 : PySem.W.subIn K (.ref x8) (.ref x10) = some false)
    (s8_11 : PySem.W.subIn K (.ref x8) (.ref x11) = some false)
    (s8_12 : PySem.W.subIn K (.ref x8) (.ref x12) = some false)
    (s9_0 : PySem.W.subIn K (.ref x9) (.ref x0) = some true)
    (s9_1 : PySem.W.subIn K (.ref x9) (.ref x1) = some false)
    (s9_2 : PySem.W.subIn K (.ref x9) (.ref x2) = some false)
    (s9_3 : PySem.W.subIn K (.ref x9) (.ref x3) = some false)
    (s9_4 : PySem.W.subIn K (.ref x9) (.ref x4) = some false)
    (s9_5 : PySem.W.subIn K (.ref x9) (.ref x5) = some false)
    (s9_6 : PySem.W.subIn K (.ref x9) (.ref x6) = some false)
    (s9_7 : PySem.W.subIn K (.ref x9) (.ref x7) = some false)
    (s9_8 : PySem.W.subIn K (.ref x9) (.ref x8) = some false)
    (s9_9 : PySem.W.subIn K (.ref x9) (.ref x9) = some true)
    (s9_10 : PySem.W.subIn K (.ref x9) (.ref x10) = some false)
    (s9_11 : PySem.W.subIn K (.ref x9) (.ref x11) = some false)
    (s9_12 : PySem.W.subIn K (.ref x9) (.ref x12) = some false)
    (s10_0 : PySem.W.subIn K (.ref x10) (.ref x0) = some true)
    (s10_1 : PySem.W.subIn K (.ref x10) (.ref x1) = some false)
    (s10_2 : PySem.W.subIn K (.ref x10) (.ref x2) = some false)
    (s10_3 : PySem.W.subIn K (.ref x10) (.ref x3) = some false)
    (s10_4 : PySem.W.subIn K (.ref x10) (.ref x4) = some false)
    (s10_5 : PySem.W.subIn K (.ref x10) (.ref x5) = some false)
    (s10_6 : PySem.W.subIn K (.ref x10) (.ref x6) = some false)
    (s10_7 : PySem.W.subIn K (.ref x10) (.ref x7) = some false)
    (s10_8 : PySem.W.subIn K (.ref x10) (.ref x8) = some false)
    (s10_9 : PySem.W.subIn K (.ref x10) (.ref x9) = some false)
    (s10_10 : PySem.W.subIn K (.ref x10) (.ref x10) = some true)
    (s10_11 : PySem.W.subIn K (.ref x10) (.ref x11) = some false)
    (s10_12 : PySem.W.subIn K (.ref x10) (.ref x12) = some false)
    (s11_0 : PySem.W.subIn K (.ref x11) (.ref x0) = some true)
    (s11_1 : PySem.W.subIn K (.ref x11) (.ref x1) = some false)
    (s11_2 : PySem.W.subIn K (.ref x11) (.ref x2) = some false)
    (s11_3 : PySem.W.subIn K (.ref x11) (.ref x3) = some false)
    (s11_4 : PySem.W.subIn K (.ref x11) (.ref x4) = some false)
    (s11_5 : PySem.W.subIn K (.ref x11) (.ref x5) = some false)
    (s11_6 : PySem.W.subIn K (.ref x11) (.ref x6) = some false)
    (s11_7 : PySem.W.subIn K (.ref x11) (.ref x7) = some false)
    (s11_8 : PySem.W.subIn K (.ref x11) (.ref x8) = some false)
    (s11_9 : PySem.W.subIn K (.ref x11) (.ref x9) = some false)
    (s11_10 : PySem.W.subIn K (.ref x11) (.ref x10) = some false)
    (s11_11 : PySem.W.subIn K (.ref x11) (.ref x11) = some true)
    (s11_12 : PySem.W.subIn K (.ref x11) (.ref x12) = some false)
    (s12_0 : PySem.W.subIn K (.ref x12) (.ref x0) = some true)
    (s12_1 : PySem.W.subIn K (.ref x12) (.ref x1) = some false)
    (s12_2 : PySem.W.subIn K (.ref x12) (.ref x2) = some false)
    (s12_3 : PySem.W.subIn K (.ref x12) (.ref x3) = some false)
    (s12_4 : PySem.W.subIn K (.ref x12) (.ref x4) = some false)
    (s12_5 : PySem.W.subIn K (.ref x12) (.ref x5) = some false)
    (s12_6 : PySem.W.subIn K (.ref x12) (.ref x6) = some false)
    (s12_7 : PySem.W.subIn K (.ref x12) (.ref x7) = some false)
    (s12_8 : PySem.W.subIn K (.ref x12) (.ref x8) = some false)
    (s12_9 : PySem.W.subIn K (.ref x12) (.ref x9) = some false)
    (s12_10 : PySem.W.subIn K (.ref x12) (.ref x10) = some false)
    (s12_11 : PySem.W.subIn K (.ref x12) (.ref x11) = some false)
    (s12_12 : PySem.W.subIn K (.ref x12) (.ref x12) = some true)
    (ya0 : PySem.W.nsIn K mainGlobals "Desk" = some (some (.ref y0)))
    (yb0 : PySem.W.plainGet K y0 Str.empty = true)
    (yc0 : PySem.W.hasDictIn K y0 = true)
    (yd0 : PySem.W.plainOver K y0 = true)
    (ye0 : PySem.W.findIn K (.ref y0) "__setattr__" = some (some (.builtin "object.__setattr__")))
    (yf0 : PySem.W.makesIn K y0 = true)
    (yg0 : PySem.W.keepIn K (.ref y0) = true)
    (yn0_0 : PySem.W.findIn K (.ref y0) "desks" = some none)
    (yn0_1 : PySem.W.findIn K (.ref y0) "goes" = some none)
    (yn0_2 : PySem.W.findIn K (.ref y0) "low" = some none)
    (yn0_3 : PySem.W.findIn K (.ref y0) "lying" = some none)
    (yn0_4 : PySem.W.findIn K (.ref y0) "seen" = some none)
    (yn0_5 : PySem.W.findIn K (.ref y0) "top" = some none)
    (yn0_6 : PySem.W.findIn K (.ref y0) "words" = some none)
    (ya1 : PySem.W.nsIn K mainGlobals "Office" = some (some (.ref y1)))
    (yb1 : PySem.W.plainGet K y1 Str.empty = true)
    (yc1 : PySem.W.hasDictIn K y1 = true)
    (yd1 : PySem.W.plainOver K y1 = true)
    (ye1 : PySem.W.findIn K (.ref y1) "__setattr__" = some (some (.builtin "object.__setattr__")))
    (yf1 : PySem.W.makesIn K y1 = true)
    (yg1 : PySem.W.keepIn K (.ref y1) = true)
    (yn1_0 : PySem.W.findIn K (.ref y1) "desks" = some none)
    (yn1_1 : PySem.W.findIn K (.ref y1) "goes" = some none)
    (yn1_2 : PySem.W.findIn K (.ref y1) "low" = some none)
    (yn1_3 : PySem.W.findIn K (.ref y1) "lying" = some none)
    (yn1_4 : PySem.W.findIn K (.ref y1) "seen" = some none)
    (yn1_5 : PySem.W.findIn K (.ref y1) "top" = some none)
    (yn1_6 : PySem.W.findIn K (.ref y1) "words" = some none)
    {od0 an0 : Option Addr} {sl0 : Array (Option Value)} {oc0 kV0 dc0 pm0 cd0 ct0 : Value}
    (a0 : PySem.W.nsIn K mainGlobals "state_in" = some (some (.ref f0)))
    (l0 : K.lookup f0 = some ⟨oc0, od0, .func (PySem.W.fnOf "state_in" "state_in" (defArgs st_state_in) (defBody st_state_in) (defScope st_state_in) .none kV0 dc0 pm0 an0 cd0 ct0), sl0⟩)
    (c0 : PySem.W.codeIn K cd0 "state_in" = true)
    (k0 : PySem.W.keepIn K (.ref f0) = true)
    {od1 an1 : Option Addr} {sl1 : Array (Option Value)} {oc1 kV1 dc1 pm1 cd1 ct1 : Value}
    (a1 : PySem.W.nsIn K mainGlobals "state_of" = some (some (.ref f1)))
    (l1 : K.lookup f1 = some ⟨oc1, od1, .func (PySem.W.fnOf "state_of" "state_of" (defArgs st_state_of) (defBody st_state_of) (defScope st_state_of) .none kV1 dc1 pm1 an1 cd1 ct1), sl1⟩)
    (c1 : PySem.W.codeIn K cd1 "state_of" = true)
    (k1 : PySem.W.keepIn K (.ref f1) = true)
    {od2 an2 : Option Addr} {sl2 : Array (Option Value)} {oc2 kV2 dc2 pm2 cd2 ct2 : Value}
    (a2 : PySem.W.nsIn K mainGlobals "gaps" = some (some (.ref f2)))
    (l2 : K.lookup f2 = some ⟨oc2, od2, .func (PySem.W.fnOf "gaps" "gaps" (defArgs st_gaps) (defBody st_gaps) (defScope st_gaps) .none kV2 dc2 pm2 an2 cd2 ct2), sl2⟩)
    (c2 : PySem.W.codeIn K cd2 "gaps" = true)
    (k2 : PySem.W.keepIn K (.ref f2) = true)
    {od3 an3 : Option Addr} {sl3 : Array (Option Value)} {oc3 kV3 dc3 pm3 cd3 ct3 : Value}
    (a3 : PySem.W.findIn K (.ref y0) "__init__" = some (some (.ref f3)))
    (i3 : PySem.W.isFn K (.ref f3) = true)
    (l3 : K.lookup f3 = some ⟨oc3, od3, .func (PySem.W.fnOf "__init__" "Desk.__init__" (defArgs st_Desk_init) (defBody st_Desk_init) (defScope st_Desk_init) .none kV3 dc3 pm3 an3 cd3 ct3), sl3⟩)
    (c3 : PySem.W.codeIn K cd3 "Desk.__init__" = true)
    (k3 : PySem.W.keepIn K (.ref f3) = true)
    {od4 an4 : Option Addr} {sl4 : Array (Option Value)} {oc4 kV4 dc4 pm4 cd4 ct4 : Value}
    (a4 : PySem.W.findIn K (.ref y1) "__init__" = some (some (.ref f4)))
    (i4 : PySem.W.isFn K (.ref f4) = true)
    (l4 : K.lookup f4 = some ⟨oc4, od4, .func (PySem.W.fnOf "__init__" "Office.__init__" (defArgs st_Office_init) (defBody st_Office_init) (defScope st_Office_init) .none kV4 dc4 pm4 an4 cd4 ct4), sl4⟩)
    (c4 : PySem.W.codeIn K cd4 "Office.__init__" = true)
    (k4 : PySem.W.keepIn K (.ref f4) = true)
    {od5 an5 : Option Addr} {sl5 : Array (Option Value)} {oc5 kV5 dc5 pm5 cd5 ct5 : Value}
    (a5 : PySem.W.findIn K (.ref y1) "desk_of" = some (some (.ref f5)))
    (i5 : PySem.W.isFn K (.ref f5) = true)
    (l5 : K.lookup f5 = some ⟨oc5, od5, .func (PySem.W.fnOf "desk_of" "Office.desk_of" (defArgs st_Office_desk_of) (defBody st_Office_desk_of) (defScope st_Office_desk_of) .none kV5 dc5 pm5 an5 cd5 ct5), sl5⟩)
    (c5 : PySem.W.codeIn K cd5 "Office.desk_of" = true)
    (k5 : PySem.W.keepIn K (.ref f5) = true)
    {od6 an6 : Option Addr} {sl6 : Array (Option Value)} {oc6 kV6 dc6 pm6 cd6 ct6 : Value}
    (a6 : PySem.W.findIn K (.ref y1) "going" = some (some (.ref f6)))
    (i6 : PySem.W.isFn K (.ref f6) = true)
    (l6 : K.lookup f6 = some ⟨oc6, od6, .func (PySem.W.fnOf "going" "Office.going" (defArgs st_Office_going) (defBody st_Office_going) (defScope st_Office_going) .none kV6 dc6 pm6 an6 cd6 ct6), sl6⟩)
    (c6 : PySem.W.codeIn K cd6 "Office.going" = true)
    (k6 : PySem.W.keepIn K (.ref f6) = true)
    {od7 an7 : Option Addr} {sl7 : Array (Option Value)} {oc7 kV7 dc7 pm7 cd7 ct7 : Value}
    (a7 : PySem.W.findIn K (.ref y1) "need_number" = some (some (.ref f7)))
    (i7 : PySem.W.isFn K (.ref f7) = true)
    (l7 : K.lookup f7 = some ⟨oc7, od7, .func (PySem.W.fnOf "need_number" "Office.need_number" (defArgs st_Office_need_number) (defBody st_Office_need_number) (defScope st_Office_need_number) .none kV7 dc7 pm7 an7 cd7 ct7), sl7⟩)
    (c7 : PySem.W.codeIn K cd7 "Office.need_number" = true)
    (k7 : PySem.W.keepIn K (.ref f7) = true)
    {od8 an8 : Option Addr} {sl8 : Array (Option Value)} {oc8 kV8 dc8 pm8 cd8 ct8 : Value}
    (a8 : PySem.W.findIn K (.ref y1) "holder" = some (some (.ref f8)))
    (i8 : PySem.W.isFn K (.ref f8) = true)
    (l8 : K.lookup f8 = some ⟨oc8, od8, .func (PySem.W.fnOf "holder" "Office.holder" (defArgs st_Office_holder) (defBody st_Office_holder) (defScope st_Office_holder) .none kV8 dc8 pm8 an8 cd8 ct8), sl8⟩)
    (c8 : PySem.W.codeIn K cd8 "Office.holder" = true)
    (k8 : PySem.W.keepIn K (.ref f8) = true)
    {od9 an9 : Option Addr} {sl9 : Array (Option Value)} {oc9 kV9 dc9 pm9 cd9 ct9 : Value}
    (a9 : PySem.W.findIn K (.ref y1) "is_free" = some (some (.ref f9)))
    (i9 : PySem.W.isFn K (.ref f9) = true)
    (l9 : K.lookup f9 = some ⟨oc9, od9, .func (PySem.W.fnOf "is_free" "Office.is_free" (defArgs st_Office_is_free) (defBody st_Office_is_free) (defScope st_Office_is_free) .none kV9 dc9 pm9 an9 cd9 ct9), sl9⟩)
    (c9 : PySem.W.codeIn K cd9 "Office.is_free" = true)
    (k9 : PySem.W.keepIn K (.ref f9) = true)
    {od10 an10 : Option Addr} {sl10 : Array (Option Value)} {oc10 kV10 dc10 pm10 cd10 ct10 : Value}
    (a10 : PySem.W.findIn K (.ref y1) "lend" = some (some (.ref f10)))
    (i10 : PySem.W.isFn K (.ref f10) = true)
    (l10 : K.lookup f10 = some ⟨oc10, od10, .func (PySem.W.fnOf "lend" "Office.lend" (defArgs st_Office_lend) (defBody st_Office_lend) (defScope st_Office_lend) .none kV10 dc10 pm10 an10 cd10 ct10), sl10⟩)
    (c10 : PySem.W.codeIn K cd10 "Office.lend" = true)
    (k10 : PySem.W.keepIn K (.ref f10) = true)
    {od11 an11 : Option Addr} {sl11 : Array (Option Value)} {oc11 kV11 dc11 pm11 cd11 ct11 : Value}
    (a11 : PySem.W.findIn K (.ref y1) "report" = some (some (.ref f11)))
    (i11 : PySem.W.isFn K (.ref f11) = true)
    (l11 : K.lookup f11 = some ⟨oc11, od11, .func (PySem.W.fnOf "report" "Office.report" (defArgs st_Office_report) (defBody st_Office_report) (defScope st_Office_report) .none kV11 dc11 pm11 an11 cd11 ct11), sl11⟩)
    (c11 : PySem.W.codeIn K cd11 "Office.report" = true)
    (k11 : PySem.W.keepIn K (.ref f11) = true)
    {od12 an12 : Option Addr} {sl12 : Array (Option Value)} {oc12 kV12 dc12 pm12 cd12 ct12 : Value}
    (a12 : PySem.W.findIn K (.ref y1) "back" = some (some (.ref f12)))
    (i12 : PySem.W.isFn K (.ref f12) = true)
    (l12 : K.lookup f12 = some ⟨oc12, od12, .func (PySem.W.fnOf "back" "Office.back" (defArgs st_Office_back) (defBody st_Office_back) (defScope st_Office_back) .none kV12 dc12 pm12 an12 cd12 ct12), sl12⟩)
    (c12 : PySem.W.codeIn K cd12 "Office.back" = true)
    (k12 : PySem.W.keepIn K (.ref f12) = true)
    {od13 an13 : Option Addr} {sl13 : Array (Option Value)} {oc13 kV13 dc13 pm13 cd13 ct13 : Value}
    (a13 : PySem.W.findIn K (.ref y1) "stop" = some (some (.ref f13)))
    (i13 : PySem.W.isFn K (.ref f13) = true)
    (l13 : K.lookup f13 = some ⟨oc13, od13, .func (PySem.W.fnOf "stop" "Office.stop" (defArgs st_Office_stop) (defBody st_Office_stop) (defScope st_Office_stop) .none kV13 dc13 pm13 an13 cd13 ct13), sl13⟩)
    (c13 : PySem.W.codeIn K cd13 "Office.stop" = true)
    (k13 : PySem.W.keepIn K (.ref f13) = true)
    {od14 an14 : Option Addr} {sl14 : Array (Option Value)} {oc14 kV14 dc14 pm14 cd14 ct14 : Value}
    (a14 : PySem.W.findIn K (.ref y1) "found" = some (some (.ref f14)))
    (i14 : PySem.W.isFn K (.ref f14) = true)
    (l14 : K.lookup f14 = some ⟨oc14, od14, .func (PySem.W.fnOf "found" "Office.found" (defArgs st_Office_found) (defBody st_Office_found) (defScope st_Office_found) .none kV14 dc14 pm14 an14 cd14 ct14), sl14⟩)
    (c14 : PySem.W.codeIn K cd14 "Office.found" = true)
    (k14 : PySem.W.keepIn K (.ref f14) = true)
    {od15 an15 : Option Addr} {sl15 : Array (Option Value)} {oc15 kV15 dc15 pm15 cd15 ct15 : Value}
    (a15 : PySem.W.findIn K (.ref y1) "settle" = some (some (.ref f15)))
    (i15 : PySem.W.isFn K (.ref f15) = true)
    (l15 : K.lookup f15 = some ⟨oc15, od15, .func (PySem.W.fnOf "settle" "Office.settle" (defArgs st_Office_settle) (defBody st_Office_settle) (defScope st_Office_settle) .none kV15 dc15 pm15 an15 cd15 ct15), sl15⟩)
    (c15 : PySem.W.codeIn K cd15 "Office.settle" = true)
    (k15 : PySem.W.keepIn K (.ref f15) = true)
    {od16 an16 : Option Addr} {sl16 : Array (Option Value)} {oc16 kV16 dc16 pm16 cd16 ct16 : Value}
    (a16 : PySem.W.nsIn K mainGlobals "_law_start" = some (some (.ref f16)))
    (l16 : K.lookup f16 = some ⟨oc16, od16, .func (PySem.W.fnOf "_law_start" "_law_start" (defArgs st__law_start) (defBody st__law_start) (defScope st__law_start) .none kV16 dc16 pm16 an16 cd16 ct16), sl16⟩)
    (c16 : PySem.W.codeIn K cd16 "_law_start" = true)
    (k16 : PySem.W.keepIn K (.ref f16) = true)
    {od17 an17 : Option Addr} {sl17 : Array (Option Value)} {oc17 kV17 dc17 pm17 cd17 ct17 : Value}
    (a17 : PySem.W.nsIn K mainGlobals "_law_drawn" = some (some (.ref f17)))
    (l17 : K.lookup f17 = some ⟨oc17, od17, .func (PySem.W.fnOf "_law_drawn" "_law_drawn" (defArgs st__law_drawn) (defBody st__law_drawn) (defScope st__law_drawn) .none kV17 dc17 pm17 an17 cd17 ct17), sl17⟩)
    (c17 : PySem.W.codeIn K cd17 "_law_drawn" = true)
    (k17 : PySem.W.keepIn K (.ref f17) = true)
    {od18 an18 : Option Addr} {sl18 : Array (Option Value)} {oc18 kV18 dc18 pm18 cd18 ct18 : Value}
    (a18 : PySem.W.nsIn K mainGlobals "_law_same" = some (some (.ref f18)))
    (l18 : K.lookup f18 = some ⟨oc18, od18, .func (PySem.W.fnOf "_law_same" "_law_same" (defArgs st__law_same) (defBody st__law_same) (defScope st__law_same) .none kV18 dc18 pm18 an18 cd18 ct18), sl18⟩)
    (c18 : PySem.W.codeIn K cd18 "_law_same" = true)
    (k18 : PySem.W.keepIn K (.ref f18) = true)
    {od19 an19 : Option Addr} {sl19 : Array (Option Value)} {oc19 kV19 dc19 pm19 cd19 ct19 : Value}
    (a19 : PySem.W.nsIn K mainGlobals "_law_office" = some (some (.ref f19)))
    (l19 : K.lookup f19 = some ⟨oc19, od19, .func (PySem.W.fnOf "_law_office" "_law_office" (defArgs st__law_office) (defBody st__law_office) (defScope st__law_office) .none kV19 dc19 pm19 an19 cd19 ct19), sl19⟩)
    (c19 : PySem.W.codeIn K cd19 "_law_office" = true)
    (k19 : PySem.W.keepIn K (.ref f19) = true)
    {od20 an20 : Option Addr} {sl20 : Array (Option Value)} {oc20 kV20 dc20 pm20 cd20 ct20 : Value}
    (a20 : PySem.W.nsIn K mainGlobals "_law_holder" = some (some (.ref f20)))
    (l20 : K.lookup f20 = some ⟨oc20, od20, .func (PySem.W.fnOf "_law_holder" "_law_holder" (defArgs st__law_holder) (defBody st__law_holder) (defScope st__law_holder) .none kV20 dc20 pm20 an20 cd20 ct20), sl20⟩)
    (c20 : PySem.W.codeIn K cd20 "_law_holder" = true)
    (k20 : PySem.W.keepIn K (.ref f20) = true)
    {od21 an21 : Option Addr} {sl21 : Array (Option Value)} {oc21 kV21 dc21 pm21 cd21 ct21 : Value}
    (a21 : PySem.W.nsIn K mainGlobals "_law_lent" = some (some (.ref f21)))
    (l21 : K.lookup f21 = some ⟨oc21, od21, .func (PySem.W.fnOf "_law_lent" "_law_lent" (defArgs st__law_lent) (defBody st__law_lent) (defScope st__law_lent) .none kV21 dc21 pm21 an21 cd21 ct21), sl21⟩)
    (c21 : PySem.W.codeIn K cd21 "_law_lent" = true)
    (k21 : PySem.W.keepIn K (.ref f21) = true)
    {od22 an22 : Option Addr} {sl22 : Array (Option Value)} {oc22 kV22 dc22 pm22 cd22 ct22 : Value}
    (a22 : PySem.W.nsIn K mainGlobals "_law_reported" = some (some (.ref f22)))
    (l22 : K.lookup f22 = some ⟨oc22, od22, .func (PySem.W.fnOf "_law_reported" "_law_reported" (defArgs st__law_reported) (defBody st__law_reported) (defScope st__law_reported) .none kV22 dc22 pm22 an22 cd22 ct22), sl22⟩)
    (c22 : PySem.W.codeIn K cd22 "_law_reported" = true)
    (k22 : PySem.W.keepIn K (.ref f22) = true)
    {od23 an23 : Option Addr} {sl23 : Array (Option Value)} {oc23 kV23 dc23 pm23 cd23 ct23 : Value}
    (a23 : PySem.W.nsIn K mainGlobals "_law_found" = some (some (.ref f23)))
    (l23 : K.lookup f23 = some ⟨oc23, od23, .func (PySem.W.fnOf "_law_found" "_law_found" (defArgs st__law_found) (defBody st__law_found) (defScope st__law_found) .none kV23 dc23 pm23 an23 cd23 ct23), sl23⟩)
    (c23 : PySem.W.codeIn K cd23 "_law_found" = true)
    (k23 : PySem.W.keepIn K (.ref f23) = true)
    {od24 an24 : Option Addr} {sl24 : Array (Option Value)} {oc24 kV24 dc24 pm24 cd24 ct24 : Value}
    (a24 : PySem.W.nsIn K mainGlobals "_law_settled" = some (some (.ref f24)))
    (l24 : K.lookup f24 = some ⟨oc24, od24, .func (PySem.W.fnOf "_law_settled" "_law_settled" (defArgs st__law_settled) (defBody st__law_settled) (defScope st__law_settled) .none kV24 dc24 pm24 an24 cd24 ct24), sl24⟩)
    (c24 : PySem.W.codeIn K cd24 "_law_settled" = true)
    (k24 : PySem.W.keepIn K (.ref f24) = true)
    {od25 an25 : Option Addr} {sl25 : Array (Option Value)} {oc25 kV25 dc25 pm25 cd25 ct25 : Value}
    (a25 : PySem.W.nsIn K mainGlobals "_law_due" = some (some (.ref f25)))
    (l25 : K.lookup f25 = some ⟨oc25, od25, .func (PySem.W.fnOf "_law_due" "_law_due" (defArgs st__law_due) (defBody st__law_due) (defScope st__law_due) .none kV25 dc25 pm25 an25 cd25 ct25), sl25⟩)
    (c25 : PySem.W.codeIn K cd25 "_law_due" = true)
    (k25 : PySem.W.keepIn K (.ref f25) = true)
    {od26 an26 : Option Addr} {sl26 : Array (Option Value)} {oc26 kV26 dc26 pm26 cd26 ct26 : Value}
    (a26 : PySem.W.nsIn K mainGlobals "_law_does" = some (some (.ref f26)))
    (l26 : K.lookup f26 = some ⟨oc26, od26, .func (PySem.W.fnOf "_law_does" "_law_does" (defArgs st__law_does) (defBody st__law_does) (defScope st__law_does) .none kV26 dc26 pm26 an26 cd26 ct26), sl26⟩)
    (c26 : PySem.W.codeIn K cd26 "_law_does" = true)
    (k26 : PySem.W.keepIn K (.ref f26) = true)
    {od27 an27 : Option Addr} {sl27 : Array (Option Value)} {oc27 kV27 dc27 pm27 cd27 ct27 : Value}
    (a27 : PySem.W.nsIn K mainGlobals "_law_told" = some (some (.ref f27)))
    (l27 : K.lookup f27 = some ⟨oc27, od27, .func (PySem.W.fnOf "_law_told" "_law_told" (defArgs st__law_told) (defBody st__law_told) (defScope st__law_told) .none kV27 dc27 pm27 an27 cd27 ct27), sl27⟩)
    (c27 : PySem.W.codeIn K cd27 "_law_told" = true)
    (k27 : PySem.W.keepIn K (.ref f27) = true)
    {od28 an28 : Option Addr} {sl28 : Array (Option Value)} {oc28 kV28 dc28 pm28 cd28 ct28 : Value}
    (a28 : PySem.W.nsIn K mainGlobals "_law_words" = some (some (.ref f28)))
    (l28 : K.lookup f28 = some ⟨oc28, od28, .func (PySem.W.fnOf "_law_words" "_law_words" (defArgs st__law_words) (defBody st__law_words) (defScope st__law_words) .none kV28 dc28 pm28 an28 cd28 ct28), sl28⟩)
    (c28 : PySem.W.codeIn K cd28 "_law_words" = true)
    (k28 : PySem.W.keepIn K (.ref f28) = true)
    {od29 an29 : Option Addr} {sl29 : Array (Option Value)} {oc29 kV29 dc29 pm29 cd29 ct29 : Value}
    (a29 : PySem.W.nsIn K mainGlobals "_law_deed" = some (some (.ref f29)))
    (l29 : K.lookup f29 = some ⟨oc29, od29, .func (PySem.W.fnOf "_law_deed" "_law_deed" (defArgs st__law_deed) (defBody st__law_deed) (defScope st__law_deed) .none kV29 dc29 pm29 an29 cd29 ct29), sl29⟩)
    (c29 : PySem.W.codeIn K cd29 "_law_deed" = true)
    (k29 : PySem.W.keepIn K (.ref f29) = true)
    {od30 an30 : Option Addr} {sl30 : Array (Option Value)} {oc30 kV30 dc30 pm30 cd30 ct30 : Value}
    (a30 : PySem.W.nsIn K mainGlobals "_law_made" = some (some (.ref f30)))
    (l30 : K.lookup f30 = some ⟨oc30, od30, .func (PySem.W.fnOf "_law_made" "_law_made" (defArgs st__law_made) (defBody st__law_made) (defScope st__law_made) .none kV30 dc30 pm30 an30 cd30 ct30), sl30⟩)
    (c30 : PySem.W.codeIn K cd30 "_law_made" = true)
    (k30 : PySem.W.keepIn K (.ref f30) = true)
    {od31 an31 : Option Addr} {sl31 : Array (Option Value)} {oc31 kV31 dc31 pm31 cd31 ct31 : Value}
    (a31 : PySem.W.nsIn K mainGlobals "_law_state" = some (some (.ref f31)))
    (l31 : K.lookup f31 = some ⟨oc31, od31, .func (PySem.W.fnOf "_law_state" "_law_state" (defArgs st__law_state) (defBody st__law_state) (defScope st__law_state) .none kV31 dc31 pm31 an31 cd31 ct31), sl31⟩)
    (c31 : PySem.W.codeIn K cd31 "_law_state" = true)
    (k31 : PySem.W.keepIn K (.ref f31) = true)
    {od32 an32 : Option Addr} {sl32 : Array (Option Value)} {oc32 kV32 dc32 pm32 cd32 ct32 : Value}
    (a32 : PySem.W.nsIn K mainGlobals "_law_gaps" = some (some (.ref f32)))
    (l32 : K.lookup f32 = some ⟨oc32, od32, .func (PySem.W.fnOf "_law_gaps" "_law_gaps" (defArgs st__law_gaps) (defBody st__law_gaps) (defScope st__law_gaps) .none kV32 dc32 pm32 an32 cd32 ct32), sl32⟩)
    (c32 : PySem.W.codeIn K cd32 "_law_gaps" = true)
    (k32 : PySem.W.keepIn K (.ref f32) = true)
    {od33 an33 : Option Addr} {sl33 : Array (Option Value)} {oc33 kV33 dc33 pm33 cd33 ct33 : Value}
    (a33 : PySem.W.nsIn K mainGlobals "law" = some (some (.ref f33)))
    (l33 : K.lookup f33 = some ⟨oc33, od33, .func (PySem.W.fnOf "law" "law" (defArgs st_law) (defBody st_law) (defScope st_law) .none kV33 dc33 pm33 an33 cd33 ct33), sl33⟩)
    (c33 : PySem.W.codeIn K cd33 "law" = true)
    (k33 : PySem.W.keepIn K (.ref f33) = true)
    {gt0 : Tok}
    (oig0 : PySem.W.nsIn K mainGlobals "MOST_TOP" = some (some (.int 400 gt0)))
    {gt1 : Tok}
    (oig1 : PySem.W.nsIn K mainGlobals "MOST_DESKS" = some (some (.int 6 gt1)))
    {gw2 gn2 : Nat} {gd2 : Option Addr} {gs2 : Array (Option Value)} {gi2 : Array Value}
    (oig2 : PySem.W.nsIn K mainGlobals "WORDS" = some (some (.ref gw2)))
    (oigl2 : K.lookup gw2 = some ⟨.type "tuple", gd2, .seq gi2 gn2, gs2⟩)
    (oigz2 : gi2.size ≤ sizeLine)
    (oigv2 : Vals ((["paper", "spoilt"] : List Str).map V.str) gi2.toList)
    (z0 : PySem.W.nsIn K mainGlobals "ValueError" = some none)
    (z1 : PySem.W.nsIn K mainGlobals "bool" = some none)
    (z2 : PySem.W.nsIn K mainGlobals "dict" = some none)
    (z3 : PySem.W.nsIn K mainGlobals "int" = some none)
    (z4 : PySem.W.nsIn K mainGlobals "isinstance" = some none)
    (z5 : PySem.W.nsIn K mainGlobals "len" = some none)
    (z6 : PySem.W.nsIn K mainGlobals "list" = some none)
    (z7 : PySem.W.nsIn K mainGlobals "max" = some none)
    (z8 : PySem.W.nsIn K mainGlobals "range" = some none)
    (z9 : PySem.W.nsIn K mainGlobals "sorted" = some none)
    (z10 : PySem.W.nsIn K mainGlobals "str" = some none)
    (z11 : PySem.W.nsIn K mainGlobals "tuple" = some none)
    (z12 : PySem.W.nsIn K mainGlobals "zip" = some none) :
    ∃ fd : FuncData, (∀ (s : Shared) (v : Value), BindsTo s fd ⟨[v], []⟩ [("_law_script", v)]) ∧ ∀ base : Heap, K.In base → base.Ns mainGlobals mg → FnOk l.prog w K mg base (L2.CX l.prog w) 200 fa fd ["_law_script"] (spLaw K) := by
  have e : f33 = fa := by
    have e := hfa.symm.trans (PySem.W.mg_of X G a33)
    cases e
    rfl
  subst e
  have q0 : (cn K x0 x1 x2 x3 x4 x5 x6 x7 x8 x9 x10 x11 x12 y0 y1).cls "GapError" = x0 := by simp [cn, pick]
  have q1 : (cn K x0 x1 x2 x3 x4 x5 x6 x7 x8 x9 x10 x11 x12 y0 y1).cls "NoOffice" = x1 := by simp [cn, pick]
  have q2 : (cn K x0 x1 x2 x3 x4 x5 x6 x7 x8 x9 x10 x11 x12 y0 y1).cls "NoDesk" = x2 := by simp [cn, pick]
  have q3 : (cn K x0 x1 x2 x3 x4 x5 x6 x7 x8 x9 x10 x11 x12 y0 y1).cls "Stopped" = x3 := by simp [cn, pick]
  have q4 : (cn K x0 x1 x2 x3 x4 x5 x6 x7 x8 x9 x10 x11 x12 y0 y1).cls "NoRoom" = x4 := by simp [cn, pick]
  have q5 : (cn K x0 x1 x2 x3 x4 x5 x6 x7 x8 x9 x10 x11 x12 y0 y1).cls "NoCount" = x5 := by simp [cn, pick]
  have q6 : (cn K x0 x1 x2 x3 x4 x5 x6 x7 x8 x9 x10 x11 x12 y0 y1).cls "NoWord" = x6 := by simp [cn, pick]
  have q7 : (cn K x0 x1 x2 x3 x4 x5 x6 x7 x8 x9 x10 x11 x12 y0 y1).cls "Short" = x7 := by simp [cn, pick]
  have q8 : (cn K x0 x1 x2 x3 x4 x5 x6 x7 x8 x9 x10 x11 x12 y0 y1).cls "NoNumber" = x8 := by simp [cn, pick]
  have q9 : (cn K x0 x1 x2 x3 x4 x5 x6 x7 x8 x9 x10 x11 x12 y0 y1).cls "Twice" = x9 := by simp [cn, pick]
  have q10 : (cn K x0 x1 x2 x3 x4 x5 x6 x7 x8 x9 x10 x11 x12 y0 y1).cls "NotThere" = x10 := by simp [cn, pick]
  have q11 : (cn K x0 x1 x2 x3 x4 x5 x6 x7 x8 x9 x10 x11 x12 y0 y1).cls "NoWorld" = x11 := by simp [cn, pick]
  have q12 : (cn K x0 x1 x2 x3 x4 x5 x6 x7 x8 x9 x10 x11 x12 y0 y1).cls "NoBox" = x12 := by simp [cn, pick]
  have r0 : (cn K x0 x1 x2 x3 x4 x5 x6 x7 x8 x9 x10 x11 x12 y0 y1).icl "Desk" = y0 := by simp [cn, pick]
  have C0 : Cls K y0 := ⟨yb0, yc0, yd0, ye0⟩
  have r1 : (cn K x0 x1 x2 x3 x4 x5 x6 x7 x8 x9 x10 x11 x12 y0 y1).icl "Office" = y1 := by simp [cn, pick]
  have C1 : Cls K y1 := ⟨yb1, yc1, yd1, ye1⟩
  have F0 := fun_mk (st := st_state_in) l0 c0 k0
  have b0 := F0.binds (ps := ["office", "number"]) fun _ _ _ _ _ _ us hl => match us, hl with | [_, _], _ => rfl
  have F1 := fun_mk (st := st_state_of) l1 c1 k1
  have b1 := F1.binds (ps := ["office", "number"]) fun _ _ _ _ _ _ us hl => match us, hl with | [_, _], _ => rfl
  have F2 := fun_mk (st := st_gaps) l2 c2 k2
  have b2 := F2.binds (ps := ["office"]) fun _ _ _ _ _ _ us hl => match us, hl with | [_], _ => rfl
  have F3 := fun_mk (st := st_Desk_init) l3 c3 k3
  have b3 := F3.binds (ps := ["self"]) fun _ _ _ _ _ _ us hl => match us, hl with | [_], _ => rfl
  have F4 := fun_mk (st := st_Office_init) l4 c4 k4
  have b4 := F4.binds (ps := ["self", "top", "desks"]) fun _ _ _ _ _ _ us hl => match us, hl with | [_, _, _], _ => rfl
  have F5 := fun_mk (st := st_Office_desk_of) l5 c5 k5
  have b5 := F5.binds (ps := ["self", "desk"]) fun _ _ _ _ _ _ us hl => match us, hl with | [_, _], _ => rfl
  have F6 := fun_mk (st := st_Office_going) l6 c6 k6
  have b6 := F6.binds (ps := ["self", "desk"]) fun _ _ _ _ _ _ us hl => match us, hl with | [_, _], _ => rfl
  have F7 := fun_mk (st := st_Office_need_number) l7 c7 k7
  have b7 := F7.binds (ps := ["self", "number"]) fun _ _ _ _ _ _ us hl => match us, hl with | [_, _], _ => rfl
  have F8 := fun_mk (st := st_Office_holder) l8 c8 k8
  have b8 := F8.binds (ps := ["self", "number"]) fun _ _ _ _ _ _ us hl => match us, hl with | [_, _], _ => rfl
  have F9 := fun_mk (st := st_Office_is_free) l9 c9 k9
  have b9 := F9.binds (ps := ["self", "number"]) fun _ _ _ _ _ _ us hl => match us, hl with | [_, _], _ => rfl
  have F10 := fun_mk (st := st_Office_lend) l10 c10 k10
  have b10 := F10.binds (ps := ["self", "desk", "many"]) fun _ _ _ _ _ _ us hl => match us, hl with | [_, _, _], _ => rfl
  have F11 := fun_mk (st := st_Office_report) l11 c11 k11
  have b11 := F11.binds (ps := ["self", "desk", "words"]) fun _ _ _ _ _ _ us hl => match us, hl with | [_, _, _], _ => rfl
  have F12 := fun_mk (st := st_Office_back) l12 c12 k12
  have b12 := F12.binds (ps := ["self", "desk"]) fun _ _ _ _ _ _ us hl => match us, hl with | [_, _], _ => rfl
  have F13 := fun_mk (st := st_Office_stop) l13 c13 k13
  have b13 := F13.binds (ps := ["self", "desk"]) fun _ _ _ _ _ _ us hl => match us, hl with | [_, _], _ => rfl
  have F14 := fun_mk (st := st_Office_found) l14 c14 k14
  have b14 := F14.binds (ps := ["self", "number"]) fun _ _ _ _ _ _ us hl => match us, hl with | [_, _], _ => rfl
  have F15 := fun_mk (st := st_Office_settle) l15 c15 k15
  have b15 := F15.binds (ps := ["self", "desk", "many"]) fun _ _ _ _ _ _ us hl => match us, hl with | [_, _, _], _ => rfl
  have F16 := fun_mk (st := st__law_start) l16 c16 k16
  have b16 := F16.binds (ps := ["_law_script"]) fun _ _ _ _ _ _ us hl => match us, hl with | [_], _ => rfl
  have F17 := fun_mk (st := st__law_drawn) l17 c17 k17
  have b17 := F17.binds (ps := ["_law_state_here", "_law_many"]) fun _ _ _ _ _ _ us hl => match us, hl with | [_, _], _ => rfl
  have F18 := fun_mk (st := st__law_same) l18 c18 k18
  have b18 := F18.binds (ps := ["_law_found_here", "_law_due_here"]) fun _ _ _ _ _ _ us hl => match us, hl with | [_, _], _ => rfl
  have F19 := fun_mk (st := st__law_office) l19 c19 k19
  have b19 := F19.binds (ps := ["_law_top", "_law_desks"]) fun _ _ _ _ _ _ us hl => match us, hl with | [_, _], _ => rfl
  have F20 := fun_mk (st := st__law_holder) l20 c20 k20
  have b20 := F20.binds (ps := ["_law_m", "_law_number"]) fun _ _ _ _ _ _ us hl => match us, hl with | [_, _], _ => rfl
  have F21 := fun_mk (st := st__law_lent) l21 c21 k21
  have b21 := F21.binds (ps := ["_law_m", "_law_desk", "_law_many"]) fun _ _ _ _ _ _ us hl => match us, hl with | [_, _, _], _ => rfl
  have F22 := fun_mk (st := st__law_reported) l22 c22 k22
  have b22 := F22.binds (ps := ["_law_m", "_law_desk", "_law_words_here"]) fun _ _ _ _ _ _ us hl => match us, hl with | [_, _, _], _ => rfl
  have F23 := fun_mk (st := st__law_found) l23 c23 k23
  have b23 := F23.binds (ps := ["_law_m", "_law_number"]) fun _ _ _ _ _ _ us hl => match us, hl with | [_, _], _ => rfl
  have F24 := fun_mk (st := st__law_settled) l24 c24 k24
  have b24 := F24.binds (ps := ["_law_m", "_law_desk", "_law_many"]) fun _ _ _ _ _ _ us hl => match us, hl with | [_, _, _], _ => rfl
  have F25 := fun_mk (st := st__law_due) l25 c25 k25
  have b25 := F25.binds (ps := ["_law_m", "_law_deed_here"]) fun _ _ _ _ _ _ us hl => match us, hl with | [_, _], _ => rfl
  have F26 := fun_mk (st := st__law_does) l26 c26 k26
  have b26 := F26.binds (ps := ["_law_office_here", "_law_deed_here"]) fun _ _ _ _ _ _ us hl => match us, hl with | [_, _], _ => rfl
  have F27 := fun_mk (st := st__law_told) l27 c27 k27
  have b27 := F27.binds (ps := ["_law_office_here", "_law_deed_here"]) fun _ _ _ _ _ _ us hl => match us, hl with | [_, _], _ => rfl
  have F28 := fun_mk (st := st__law_words) l28 c28 k28
  have b28 := F28.binds (ps := ["_law_state_here", "_law_many"]) fun _ _ _ _ _ _ us hl => match us, hl with | [_, _], _ => rfl
  have F29 := fun_mk (st := st__law_deed) l29 c29 k29
  have b29 := F29.binds (ps := ["_law_state_here", "_law_m", "_law_wide"]) fun _ _ _ _ _ _ us hl => match us, hl with | [_, _, _], _ => rfl
  have F30 := fun_mk (st := st__law_made) l30 c30 k30
  have b30 := F30.binds (ps := ["_law_state_here", "_law_wide", "_law_most"]) fun _ _ _ _ _ _ us hl => match us, hl with | [_, _, _], _ => rfl
  have F31 := fun_mk (st := st__law_state) l31 c31 k31
  have b31 := F31.binds (ps := ["_law_m", "_law_number"]) fun _ _ _ _ _ _ us hl => match us, hl with | [_, _], _ => rfl
  have F32 := fun_mk (st := st__law_gaps) l32 c32 k32
  have b32 := F32.binds (ps := ["_law_m"]) fun _ _ _ _ _ _ us hl => match us, hl with | [_], _ => rfl
  have F33 := fun_mk (st := st_law) l33 c33 k33
  have b33 := F33.binds (ps := ["_law_script"]) fun _ _ _ _ _ _ us hl => match us, hl with | [_], _ => rfl
  have hb : TabOk K mg (cn K x0 x1 x2 x3 x4 x5 x6 x7 x8 x9 x10 x11 x12 y0 y1) tab := by
    refine ⟨?_, ?_, ?_, ?_, ?_⟩
    · exact List.forall_mem_cons.mpr ⟨PySem.W.mg_none_of X G z0, List.forall_mem_cons.mpr ⟨PySem.W.mg_none_of X G z1, List.forall_mem_cons.mpr ⟨PySem.W.mg_none_of X G z2, List.forall_mem_cons.mpr ⟨PySem.W.mg_none_of X G z3, List.forall_mem_cons.mpr ⟨PySem.W.mg_none_of X G z4, List.forall_mem_cons.mpr ⟨PySem.W.mg_none_of X G z5, List.forall_mem_cons.mpr ⟨PySem.W.mg_none_of X G z6, List.forall_mem_cons.mpr ⟨PySem.W.mg_none_of X G z7, List.forall_mem_cons.mpr ⟨PySem.W.mg_none_of X G z8, List.forall_mem_cons.mpr ⟨PySem.W.mg_none_of X G z9, List.forall_mem_cons.mpr ⟨PySem.W.mg_none_of X G z10, List.forall_mem_cons.mpr ⟨PySem.W.mg_none_of X G z11, List.forall_mem_cons.mpr ⟨PySem.W.mg_none_of X G z12, fun _ hm => nomatch hm⟩⟩⟩⟩⟩⟩⟩⟩⟩⟩⟩⟩⟩
    · exact List.forall_mem_cons.mpr ⟨pick_all (p := fun y => Cls K y ∧ NoAttr K y (Str.ofString "desks")) ⟨C0, yn0_0⟩ (List.forall_mem_cons.mpr ⟨⟨C0, yn0_0⟩, List.forall_mem_cons.mpr ⟨⟨C1, yn1_0⟩, fun _ hm => nomatch hm⟩⟩), List.forall_mem_cons.mpr ⟨pick_all (p := fun y => Cls K y ∧ NoAttr K y (Str.ofString "goes")) ⟨C0, yn0_1⟩ (List.forall_mem_cons.mpr ⟨⟨C0, yn0_1⟩, List.forall_mem_cons.mpr ⟨⟨C1, yn1_1⟩, fun _ hm => nomatch hm⟩⟩), List.forall_mem_cons.mpr ⟨pick_all (p := fun y => Cls K y ∧ NoAttr K y (Str.ofString "low")) ⟨C0, yn0_2⟩ (List.forall_mem_cons.mpr ⟨⟨C0, yn0_2⟩, List.forall_mem_cons.mpr ⟨⟨C1, yn1_2⟩, fun _ hm => nomatch hm⟩⟩), List.forall_mem_cons.mpr ⟨pick_all (p := fun y => Cls K y ∧ NoAttr K y (Str.ofString "lying")) ⟨C0, yn0_3⟩ (List.forall_mem_cons.mpr ⟨⟨C0, yn0_3⟩, List.forall_mem_cons.mpr ⟨⟨C1, yn1_3⟩, fun _ hm => nomatch hm⟩⟩), List.forall_mem_cons.mpr ⟨pick_all (p := fun y => Cls K y ∧ NoAttr K y (Str.ofString "seen")) ⟨C0, yn0_4⟩ (List.forall_mem_cons.mpr ⟨⟨C0, yn0_4⟩, List.forall_mem_cons.mpr ⟨⟨C1, yn1_4⟩, fun _ hm => nomatch hm⟩⟩), List.forall_mem_cons.mpr ⟨pick_all (p := fun y => Cls K y ∧ NoAttr K y (Str.ofString "top")) ⟨C0, yn0_5⟩ (List.forall_mem_cons.mpr ⟨⟨C0, yn0_5⟩, List.forall_mem_cons.mpr ⟨⟨C1, yn1_5⟩, fun _ hm => nomatch hm⟩⟩), List.forall_mem_cons.mpr ⟨pick_all (p := fun y => Cls K y ∧ NoAttr K y (Str.ofString "words")) ⟨C0, yn0_6⟩ (List.forall_mem_cons.mpr ⟨⟨C0, yn0_6⟩, List.forall_mem_cons.mpr ⟨⟨C1, yn1_6⟩, fun _ hm => nomatch hm⟩⟩), fun _ hm => nomatch hm⟩⟩⟩⟩⟩⟩⟩
    · exact List.forall_mem_cons.mpr ⟨exk_of q0 (PySem.W.mg_of X G ea0) eb0 ec0 ed0 ee0 ef0 ⟨eg0, eh0, ed0, ei0, ej0, el, em, ek0⟩, List.forall_mem_cons.mpr ⟨exk_of q1 (PySem.W.mg_of X G ea1) eb1 ec1 ed1 ee1 ef1 ⟨eg1, eh1, ed1, ei1, ej1, el, em, ek1⟩, List.forall_mem_cons.mpr ⟨exk_of q2 (PySem.W.mg_of X G ea2) eb2 ec2 ed2 ee2 ef2 ⟨eg2, eh2, ed2, ei2, ej2, el, em, ek2⟩, List.forall_mem_cons.mpr ⟨exk_of q3 (PySem.W.mg_of X G ea3) eb3 ec3 ed3 ee3 ef3 ⟨eg3, eh3, ed3, ei3, ej3, el, em, ek3⟩, List.forall_mem_cons.mpr ⟨exk_of q4 (PySem.W.mg_of X G ea4) eb4 ec4 ed4 ee4 ef4 ⟨eg4, eh4, ed4, ei4, ej4, el, em, ek4⟩, List.forall_mem_cons.mpr ⟨exk_of q5 (PySem.W.mg_of X G ea5) eb5 ec5 ed5 ee5 ef5 ⟨eg5, eh5, ed5, ei5, ej5, el, em, ek5⟩, List.forall_mem_cons.mpr ⟨exk_of q6 (PySem.W.mg_of X G ea6) eb6 ec6 ed6 ee6 ef6 ⟨eg6, eh6, ed6, ei6, ej6, el, em, ek6⟩, List.forall_mem_cons.mpr ⟨exk_of q7 (PySem.W.mg_of X G ea7) eb7 ec7 ed7 ee7 ef7 ⟨eg7, eh7, ed7, ei7, ej7, el, em, ek7⟩, List.forall_mem_cons.mpr ⟨exk_of q8 (PySem.W.mg_of X G ea8) eb8 ec8 ed8 ee8 ef8 ⟨eg8, eh8, ed8, ei8, ej8, el, em, ek8⟩, List.forall_mem_cons.mpr ⟨exk_of q9 (PySem.W.mg_of X G ea9) eb9 ec9 ed9 ee9 ef9 ⟨eg9, eh9, ed9, ei9, ej9, el, em, ek9⟩, List.forall_mem_cons.mpr ⟨exk_of q10 (PySem.W.mg_of X G ea10) eb10 ec10 ed10 ee10 ef10 ⟨eg10, eh10, ed10, ei10, ej10, el, em, ek10⟩, List.forall_mem_cons.mpr ⟨exk_of q11 (PySem.W.mg_of X G ea11) eb11 ec11 ed11 ee11 ef11 ⟨eg11, eh11, ed11, ei11, ej11, el, em, ek11⟩, List.forall_mem_cons.mpr ⟨exk_of q12 (PySem.W.mg_of X G ea12) eb12 ec12 ed12 ee12 ef12 ⟨eg12, eh12, ed12, ei12, ej12, el, em, ek12⟩, fun _ hm => nomatch hm⟩⟩⟩⟩⟩⟩⟩⟩⟩⟩⟩⟩⟩
    · exact List.forall_mem_cons.mpr ⟨List.forall_mem_cons.mpr ⟨sub_of q0 q0 s0_0 (by decide), List.forall_mem_cons.mpr ⟨sub_of q0 q1 s0_1 (by decide), List.forall_mem_cons.mpr ⟨sub_of q0 q2 s0_2 (by decide), List.forall_mem_cons.mpr ⟨sub_of q0 q3 s0_3 (by decide), List.forall_mem_cons.mpr ⟨sub_of q0 q4 s0_4 (by decide), List.forall_mem_cons.mpr ⟨sub_of q0 q5 s0_5 (by decide), List.forall_mem_cons.mpr ⟨sub_of q0 q6 s0_6 (by decide), List.forall_mem_cons.mpr ⟨sub_of q0 q7 s0_7 (by decide), List.forall_mem_cons.mpr ⟨sub_of q0 q8 s0_8 (by decide), List.forall_mem_cons.mpr ⟨sub_of q0 q9 s0_9 (by decide), List.forall_mem_cons.mpr ⟨sub_of q0 q10 s0_10 (by decide), List.forall_mem_cons.mpr ⟨sub_of q0 q11 s0_11 (by decide), List.forall_mem_cons.mpr ⟨sub_of q0 q12 s0_12 (by decide), fun _ hm => nomatch hm⟩⟩⟩⟩⟩⟩⟩⟩⟩⟩⟩⟩⟩, List.forall_mem_cons.mpr ⟨List.forall_mem_cons.mpr ⟨sub_of q1 q0 s1_0 (by decide), List.forall_mem_cons.mpr ⟨sub_of q1 q1 s1_1 (by decide), List.forall_mem_cons.mpr ⟨sub_of q1 q2 s1_2 (by decide), List.forall_mem_cons.mpr ⟨sub_of q1 q3 s1_3 (by decide), List.forall_mem_cons.mpr ⟨sub_of q1 q4 s1_4 (by decide), List.forall_mem_cons.mpr ⟨sub_of q1 q5 s1_5 (by decide), List.forall_mem_cons.mpr ⟨sub_of q1 q6 s1_6 (by decide), List.forall_mem_cons.mpr ⟨sub_of q1 q7 s1_7 (by decide), List.forall_mem_cons.mpr ⟨sub_of q1 q8 s1_8 (by decide), List.forall_mem_cons.mpr ⟨sub_of q1 q9 s1_9 (by decide), List.forall_mem_cons.mpr ⟨sub_of q1 q10 s1_10 (by decide), List.forall_mem_cons.mpr ⟨sub_of q1 q11 s1_11 (by decide), List.forall_mem_cons.mpr ⟨sub_of q1 q12 s1_12 (by decide), fun _ hm => nomatch hm⟩⟩⟩⟩⟩⟩⟩⟩⟩⟩⟩⟩⟩, List.forall_mem_cons.mpr ⟨List.forall_mem_cons.mpr ⟨sub_of q2 q0 s2_0 (by decide), List.forall_mem_cons.mpr ⟨sub_of q2 q1 s2_1 (by decide), List.forall_mem_cons.mpr ⟨sub_of q2 q2 s2_2 (by decide), List.forall_mem_cons.mpr ⟨sub_of q2 q3 s2_3 (by decide), List.forall_mem_cons.mpr ⟨sub_of q2 q4 s2_4 (by decide), List.forall_mem_cons.mpr ⟨sub_of q2 q5 s2_5 (by decide), List.forall_mem_cons.mpr ⟨sub_of q2 q6 s2_6 (by decide), List.forall_mem_cons.mpr ⟨sub_of q2 q7 s2_7 (by decide), List.forall_mem_cons.mpr ⟨sub_of q2 q8 s2_8 (by decide), List.forall_mem_cons.mpr ⟨sub_of q2 q9 s2_9 (by decide), List.forall_mem_cons.mpr ⟨sub_of q2 q10 s2_10 (by decide), List.forall_mem_cons.mpr ⟨sub_of q2 q11 s2_11 (by decide), List.forall_mem_cons.mpr ⟨sub_of q2 q12 s2_12 (by decide), fun _ hm => nomatch hm⟩⟩⟩⟩⟩⟩⟩⟩⟩⟩⟩⟩⟩, List.forall_mem_cons.mpr ⟨List.forall_mem_cons.mpr ⟨sub_of q3 q0 s3_0 (by decide), List.forall_mem_cons.mpr ⟨sub_of q3 q1 s3_1 (by decide), List.forall_mem_cons.mpr ⟨sub_of q3 q2 s3_2 (by decide), List.forall_mem_cons.mpr ⟨sub_of q3 q3 s3_3 (by decide), List.forall_mem_cons.mpr ⟨sub_of q3 q4 s3_4 (by decide), List.forall_mem_cons.mpr ⟨sub_of q3 q5 s3_5 (by decide), List.forall_mem_cons.mpr ⟨sub_of q3 q6 s3_6 (by decide), List.forall_mem_cons.mpr ⟨sub_of q3 q7 s3_7 (by decide), List.forall_mem_cons.mpr ⟨sub_of q3 q8 s3_8 (by decide), List.forall_mem_cons.mpr ⟨sub_of q3 q9 s3_9 (by decide), List.forall_mem_cons.mpr ⟨sub_of q3 q10 s3_10 (by decide), List.forall_mem_cons.mpr ⟨sub_of q3 q11 s3_11 (by decide), List.forall_mem_cons.mpr ⟨sub_of q3 q12 s3_12 (by decide), fun _ hm => nomatch hm⟩⟩⟩⟩⟩⟩⟩⟩⟩⟩⟩⟩⟩, List.forall_mem_cons.mpr ⟨List.forall_mem_cons.mpr ⟨sub_of q4 q0 s4_0 (by decide), List.forall_mem_cons.mpr ⟨sub_of q4 q1 s4_1 (by decide), List.forall_mem_cons.mpr ⟨sub_of q4 q2 s4_2 (by decide), List.forall_mem_cons.mpr ⟨sub_of q4 q3 s4_3 (by decide), List.forall_mem_cons.mpr ⟨sub_of q4 q4 s4_4 (by decide), List.forall_mem_cons.mpr ⟨sub_of q4 q5 s4_5 (by decide), List.forall_mem_cons.mpr ⟨sub_of q4 q6 s4_6 (by decide), List.forall_mem_cons.mpr ⟨sub_of q4 q7 s4_7 (by decide), List.forall_mem_cons.mpr ⟨sub_of q4 q8 s4_8 (by decide), List.forall_mem_cons.mpr ⟨sub_of q4 q9 s4_9 (by decide), List.forall_mem_cons.mpr ⟨sub_of q4 q10 s4_10 (by decide), List.forall_mem_cons.mpr ⟨sub_of q4 q11 s4_11 (by decide), List.forall_mem_cons.mpr ⟨sub_of q4 q12 s4_12 (by decide), fun _ hm => nomatch hm⟩⟩⟩⟩⟩⟩⟩⟩⟩⟩⟩⟩⟩, List.forall_mem_cons.mpr ⟨List.forall_mem_cons.mpr ⟨sub_of q5 q0 s5_0 (by decide), List.forall_mem_cons.mpr ⟨sub_of q5 q1 s5_1 (by decide), List.forall_mem_cons.mpr ⟨sub_of q5 q2 s5_2 (by decide), List.forall_mem_cons.mpr ⟨sub_of q5 q3 s5_3 (by decide), List.forall_mem_cons.mpr ⟨sub_of q5 q4 s5_4 (by decide), List.forall_mem_cons.mpr ⟨sub_of q5 q5 s5_5 (by decide), List.forall_mem_cons.mpr ⟨sub_of q5 q6 s5_6 (by decide), List.forall_mem_cons.mpr ⟨sub_of q5 q7 s5_7 (by decide), List.forall_mem_cons.mpr ⟨sub_of q5 q8 s5_8 (by decide), List.forall_mem_cons.mpr ⟨sub_of q5 q9 s5_9 (by decide), List.forall_mem_cons.mpr ⟨sub_of q5 q10 s5_10 (by decide), List.forall_mem_cons.mpr ⟨sub_of q5 q11 s5_11 (by decide), List.forall_mem_cons.mpr ⟨sub_of q5 q12 s5_12 (by decide), fun _ hm => nomatch hm⟩⟩⟩⟩⟩⟩⟩⟩⟩⟩⟩⟩⟩, List.forall_mem_cons.mpr ⟨List.forall_mem_cons.mpr ⟨sub_of q6 q0 s6_0 (by decide), List.forall_mem_cons.mpr ⟨sub_of q6 q1 s6_1 (by decide), List.forall_mem_cons.mpr ⟨sub_of q6 q2 s6_2 (by decide), List.forall_mem_cons.mpr ⟨sub_of q6 q3 s6_3 (by decide), List.forall_mem_cons.mpr ⟨sub_of q6 q4 s6_4 (by decide), List.forall_mem_cons.mpr ⟨sub_of q6 q5 s6_5 (by decide), List.forall_mem_cons.mpr ⟨sub_of q6 q6 s6_6 (by decide), List.forall_mem_cons.mpr ⟨sub_of q6 q7 s6_7 (by decide), List.forall_mem_cons.mpr ⟨sub_of q6 q8 s6_8 (by decide), List.forall_mem_cons.mpr ⟨sub_of q6 q9 s6_9 (by decide), List.forall_mem_cons.mpr ⟨sub_of q6 q10 s6_10 (by decide), List.forall_mem_cons.mpr ⟨sub_of q6 q11 s6_11 (by decide), List.forall_mem_cons.mpr ⟨sub_of q6 q12 s6_12 (by decide), fun _ hm => nomatch hm⟩⟩⟩⟩⟩⟩⟩⟩⟩⟩⟩⟩⟩, List.forall_mem_cons.mpr ⟨List.forall_mem_cons.mpr ⟨sub_of q7 q0 s7_0 (by decide), List.forall_mem_cons.mpr ⟨sub_of q7 q1 s7_1 (by decide), List.forall_mem_cons.mpr ⟨sub_of q7 q2 s7_2 (by decide), List.forall_mem_cons.mpr ⟨sub_of q7 q3 s7_3 (by decide), List.forall_mem_cons.mpr ⟨sub_of q7 q4 s7_4 (by decide), List.forall_mem_cons.mpr ⟨sub_of q7 q5 s7_5 (by decide), List.forall_mem_cons.mpr ⟨sub_of q7 q6 s7_6 (by decide), List.forall_mem_cons.mpr ⟨sub_of q7 q7 s7_7 (by decide), List.forall_mem_cons.mpr ⟨sub_of q7 q8 s7_8 (by decide), List.forall_mem_cons.mpr ⟨sub_of q7 q9 s7_9 (by decide), List.forall_mem_cons.mpr ⟨sub_of q7 q10 s7_10 (by decide), List.forall_mem_cons.mpr ⟨sub_of q7 q11 s7_11 (by decide), List.forall_mem_cons.mpr ⟨sub_of q7 q12 s7_12 (by decide), fun _ hm => nomatch hm⟩⟩⟩⟩⟩⟩⟩⟩⟩⟩⟩⟩⟩, List.forall_mem_cons.mpr ⟨List.forall_mem_cons.mpr ⟨sub_of q8 q0 s8_0 (by decide), List.forall_mem_cons.mpr ⟨sub_of q8 q1 s8_1 (by decide), List.forall_mem_cons.mpr ⟨sub_of q8 q2 s8_2 (by decide), List.forall_mem_cons.mpr ⟨sub_of q8 q3 s8_3 (by decide), List.forall_mem_cons.mpr ⟨sub_of q8 q4 s8_4 (by decide), List.forall_mem_cons.mpr ⟨sub_of q8 q5 s8_5 (by decide), List.forall_mem_cons.mpr ⟨sub_of q8 q6 s8_6 (by decide), List.forall_mem_cons.mpr ⟨sub_of q8 q7 s8_7 (by decide), List.forall_mem_cons.mpr ⟨sub_of q8 q8 s8_8 (by decide), List.forall_mem_cons.mpr ⟨sub_of q8 q9 s8_9 (by decide), List.forall_mem_cons.mpr ⟨sub_of q8 q10 s8_10 (by decide), List.forall_mem_cons.mpr ⟨sub_of q8 q11 s8_11 (by decide), List.forall_mem_cons.mpr ⟨sub_of q8 q12 s8_12 (by decide), fun _ hm => nomatch hm⟩⟩⟩⟩⟩⟩⟩⟩⟩⟩⟩⟩⟩, List.forall_mem_cons.mpr ⟨List.forall_mem_cons.mpr ⟨sub_of q9 q0 s9_0 (by decide), List.forall_mem_cons.mpr ⟨sub_of q9 q1 s9_1 (by decide), List.forall_mem_cons.mpr ⟨sub_of q9 q2 s9_2 (by decide), List.forall_mem_cons.mpr ⟨sub_of q9 q3 s9_3 (by decide), List.forall_mem_cons.mpr ⟨sub_of q9 q4 s9_4 (by decide), List.forall_mem_cons.mpr ⟨sub_of q9 q5 s9_5 (by decide), List.forall_mem_cons.mpr ⟨sub_of q9 q6 s9_6 (by decide), List.forall_mem_cons.mpr ⟨sub_of q9 q7 s9_7 (by decide), List.forall_mem_cons.mpr ⟨sub_of q9 q8 s9_8 (by decide), List.forall_mem_cons.mpr ⟨sub_of q9 q9 s9_9 (by decide), List.forall_mem_cons.mpr ⟨sub_of q9 q10 s9_10 (by decide), List.forall_mem_cons.mpr ⟨sub_of q9 q11 s9_11 (by decide), List.forall_mem_cons.mpr ⟨sub_of q9 q12 s9_12 (by decide), fun _ hm => nomatch hm⟩⟩⟩⟩⟩⟩⟩⟩⟩⟩⟩⟩⟩, List.forall_mem_cons.mpr ⟨List.forall_mem_cons.mpr ⟨sub_of q10 q0 s10_0 (by decide), List.forall_mem_cons.mpr ⟨sub_of q10 q1 s10_1 (by decide), List.forall_mem_cons.mpr ⟨sub_of q10 q2 s10_2 (by decide), List.forall_mem_cons.mpr ⟨sub_of q10 q3 s10_3 (by decide), List.forall_mem_cons.mpr ⟨sub_of q10 q4 s10_4 (by decide), List.forall_mem_cons.mpr ⟨sub_of q10 q5 s10_5 (by decide), List.forall_mem_cons.mpr ⟨sub_of q10 q6 s10_6 (by decide), List.forall_mem_cons.mpr ⟨sub_of q10 q7 s10_7 (by decide), List.forall_mem_cons.mpr ⟨sub_of q10 q8 s10_8 (by decide), List.forall_mem_cons.mpr ⟨sub_of q10 q9 s10_9 (by decide), List.forall_mem_cons.mpr ⟨sub_of q10 q10 s10_10 (by decide), List.forall_mem_cons.mpr ⟨sub_of q10 q11 s10_11 (by decide), List.forall_mem_cons.mpr ⟨sub_of q10 q12 s10_12 (by decide), fun _ hm => nomatch hm⟩⟩⟩⟩⟩⟩⟩⟩⟩⟩⟩⟩⟩, List.forall_mem_cons.mpr ⟨List.forall_mem_cons.mpr ⟨sub_of q11 q0 s11_0 (by decide), List.forall_mem_cons.mpr ⟨sub_of q11 q1 s11_1 (by decide), List.forall_mem_cons.mpr ⟨sub_of q11 q2 s11_2 (by decide), List.forall_mem_cons.mpr ⟨sub_of q11 q3 s11_3 (by decide), List.forall_mem_cons.mpr ⟨sub_of q11 q4 s11_4 (by decide), List.forall_mem_cons.mpr ⟨sub_of q11 q5 s11_5 (by decide), List.forall_mem_cons.mpr ⟨sub_of q11 q6 s11_6 (by decide), List.forall_mem_cons.mpr ⟨sub_of q11 q7 s11_7 (by decide), List.forall_mem_cons.mpr ⟨sub_of q11 q8 s11_8 (by decide), List.forall_mem_cons.mpr ⟨sub_of q11 q9 s11_9 (by decide), List.forall_mem_cons.mpr ⟨sub_of q11 q10 s11_10 (by decide), List.forall_mem_cons.mpr ⟨sub_of q11 q11 s11_11 (by decide), List.forall_mem_cons.mpr ⟨sub_of q11 q12 s11_12 (by decide), fun _ hm => nomatch hm⟩⟩⟩⟩⟩⟩⟩⟩⟩⟩⟩⟩⟩, List.forall_mem_cons.mpr ⟨List.forall_mem_cons.mpr ⟨sub_of q12 q0 s12_0 (by decide), List.forall_mem_cons.mpr ⟨sub_of q12 q1 s12_1 (by decide), List.forall_mem_cons.mpr ⟨sub_of q12 q2 s12_2 (by decide), List.forall_mem_cons.mpr ⟨sub_of q12 q3 s12_3 (by decide), List.forall_mem_cons.mpr ⟨sub_of q12 q4 s12_4 (by decide), List.forall_mem_cons.mpr ⟨sub_of q12 q5 s12_5 (by decide), List.forall_mem_cons.mpr ⟨sub_of q12 q6 s12_6 (by decide), List.forall_mem_cons.mpr ⟨sub_of q12 q7 s12_7 (by decide), List.forall_mem_cons.mpr ⟨sub_of q12 q8 s12_8 (by decide), List.forall_mem_cons.mpr ⟨sub_of q12 q9 s12_9 (by decide), List.forall_mem_cons.mpr ⟨sub_of q12 q10 s12_10 (by decide), List.forall_mem_cons.mpr ⟨sub_of q12 q11 s12_11 (by decide), List.forall_mem_cons.mpr ⟨sub_of q12 q12 s12_12 (by decide), fun _ hm => nomatch hm⟩⟩⟩⟩⟩⟩⟩⟩⟩⟩⟩⟩⟩, fun _ hm => nomatch hm⟩⟩⟩⟩⟩⟩⟩⟩⟩⟩⟩⟩⟩
    · have hg : ∀ y ∈ tab.glbs, GlobOk (cn K x0 x1 x2 x3 x4 x5 x6 x7 x8 x9 x10 x11 x12 y0 y1) mg y.1 y.2 := List.forall_mem_cons.mpr ⟨glb_int (PySem.W.mg_of X G oig0), List.forall_mem_cons.mpr ⟨glb_int (PySem.W.mg_of X G oig1), List.forall_mem_cons.mpr ⟨glb_strs (c := (cn K x0 x1 x2 x3 x4 x5 x6 x7 x8 x9 x10 x11 x12 y0 y1)) (PySem.W.mg_of X G oig2) oigl2 oigz2 oigv2, fun _ hm => nomatch hm⟩⟩⟩
      exact fun x d hm => hg (x, d) hm
  have hT : ∀ e ∈ ([⟨.fn, "state_in", "state_in", "state_in", ["office", "number"], N_state_in, st_state_in, f0, PySem.W.fnOf "state_in" "state_in" (defArgs st_state_in) (defBody st_state_in) (defScope st_state_in) .none kV0 dc0 pm0 an0 cd0 ct0, f_state_in⟩,
    ⟨.fn, "state_of", "state_of", "state_of", ["office", "number"], N_state_of, st_state_of, f1, PySem.W.fnOf "state_of" "state_of" (defArgs st_state_of) (defBody st_state_of) (defScope st_state_of) .none kV1 dc1 pm1 an1 cd1 ct1, f_state_of⟩,
    ⟨.fn, "gaps", "gaps", "gaps", ["office"], N_gaps, st_gaps, f2, PySem.W.fnOf "gaps" "gaps" (defArgs st_gaps) (defBody st_gaps) (defScope st_gaps) .none kV2 dc2 pm2 an2 cd2 ct2, f_gaps⟩,
    ⟨(.init "Desk"), "Desk.__init__", "__init__", "Desk.__init__", ["self"], N_Desk_init, st_Desk_init, f3, PySem.W.fnOf "__init__" "Desk.__init__" (defArgs st_Desk_init) (defBody st_Desk_init) (defScope st_Desk_init) .none kV3 dc3 pm3 an3 cd3 ct3, f_Desk_init⟩,
    ⟨(.init "Office"), "Office.__init__", "__init__", "Office.__init__", ["self", "top", "desks"], N_Office_init, st_Office_init, f4, PySem.W.fnOf "__init__" "Office.__init__" (defArgs st_Office_init) (defBody st_Office_init) (defScope st_Office_init) .none kV4 dc4 pm4 an4 cd4 ct4, f_Office_init⟩,
    ⟨(.mt "Office" "desk_of"), "Office.desk_of", "desk_of", "Office.desk_of", ["self", "desk"], N_Office_desk_of, st_Office_desk_of, f5, PySem.W.fnOf "desk_of" "Office.desk_of" (defArgs st_Office_desk_of) (defBody st_Office_desk_of) (defScope st_Office_desk_of) .none kV5 dc5 pm5 an5 cd5 ct5, f_Office_desk_of⟩,
    ⟨(.mt "Office" "going"), "Office.going", "going", "Office.going", ["self", "desk"], N_Office_going, st_Office_going, f6, PySem.W.fnOf "going" "Office.going" (defArgs st_Office_going) (defBody st_Office_going) (defScope st_Office_going) .none kV6 dc6 pm6 an6 cd6 ct6, f_Office_going⟩,
    ⟨(.mt "Office" "need_number"), "Office.need_number", "need_number", "Office.need_number", ["self", "number"], N_Office_need_number, st_Office_need_number, f7, PySem.W.fnOf "need_number" "Office.need_number" (defArgs st_Office_need_number) (defBody st_Office_need_number) (defScope st_Office_need_number) .none kV7 dc7 pm7 an7 cd7 ct7, f_Office_need_number⟩,
    ⟨(.mt "Office" "holder"), "Office.holder", "holder", "Office.holder", ["self", "number"], N_Office_holder, st_Office_holder, f8, PySem.W.fnOf "holder" "Office.holder" (defArgs st_Office_holder) (defBody st_Office_holder) (defScope st_Office_holder) .none kV8 dc8 pm8 an8 cd8 ct8, f_Office_holder⟩,
    ⟨(.mt "Office" "is_free"), "Office.is_free", "is_free", "Office.is_free", ["self", "number"], N_Office_is_free, st_Office_is_free, f9, PySem.W.fnOf "is_free" "Office.is_free" (defArgs st_Office_is_free) (defBody st_Office_is_free) (defScope st_Office_is_free) .none kV9 dc9 pm9 an9 cd9 ct9, f_Office_is_free⟩,
    ⟨(.mt "Office" "lend"), "Office.lend", "lend", "Office.lend", ["self", "desk", "many"], N_Office_lend, st_Office_lend, f10, PySem.W.fnOf "lend" "Office.lend" (defArgs st_Office_lend) (defBody st_Office_lend) (defScope st_Office_lend) .none kV10 dc10 pm10 an10 cd10 ct10, f_Office_lend⟩,
    ⟨(.mt "Office" "report"), "Office.report", "report", "Office.report", ["self", "desk", "words"], N_Office_report, st_Office_report, f11, PySem.W.fnOf "report" "Office.report" (defArgs st_Office_report) (defBody st_Office_report) (defScope st_Office_report) .none kV11 dc11 pm11 an11 cd11 ct11, f_Office_report⟩,
    ⟨(.mt "Office" "back"), "Office.back", "back", "Office.back", ["self", "desk"], N_Office_back, st_Office_back, f12, PySem.W.fnOf "back" "Office.back" (defArgs st_Office_back) (defBody st_Office_back) (defScope st_Office_back) .none kV12 dc12 pm12 an12 cd12 ct12, f_Office_back⟩,
    ⟨(.mt "Office" "stop"), "Office.stop", "stop", "Office.stop", ["self", "desk"], N_Office_stop, st_Office_stop, f13, PySem.W.fnOf "stop" "Office.stop" (defArgs st_Office_stop) (defBody st_Office_stop) (defScope st_Office_stop) .none kV13 dc13 pm13 an13 cd13 ct13, f_Office_stop⟩,
    ⟨(.mt "Office" "found"), "Office.found", "found", "Office.found", ["self", "number"], N_Office_found, st_Office_found, f14, PySem.W.fnOf "found" "Office.found" (defArgs st_Office_found) (defBody st_Office_found) (defScope st_Office_found) .none kV14 dc14 pm14 an14 cd14 ct14, f_Office_found⟩,
    ⟨(.mt "Office" "settle"), "Office.settle", "settle", "Office.settle", ["self", "desk", "many"], N_Office_settle, st_Office_settle, f15, PySem.W.fnOf "settle" "Office.settle" (defArgs st_Office_settle) (defBody st_Office_settle) (defScope st_Office_settle) .none kV15 dc15 pm15 an15 cd15 ct15, f_Office_settle⟩,
    ⟨.fn, "_law_start", "_law_start", "_law_start", ["_law_script"], N__law_start, st__law_start, f16, PySem.W.fnOf "_law_start" "_law_start" (defArgs st__law_start) (defBody st__law_start) (defScope st__law_start) .none kV16 dc16 pm16 an16 cd16 ct16, f__law_start⟩,
    ⟨.fn, "_law_drawn", "_law_drawn", "_law_drawn", ["_law_state_here", "_law_many"], N__law_drawn, st__law_drawn, f17, PySem.W.fnOf "_law_drawn" "_law_drawn" (defArgs st__law_drawn) (defBody st__law_drawn) (defScope st__law_drawn) .none kV17 dc17 pm17 an17 cd17 ct17, f__law_drawn⟩,
    ⟨.fn, "_law_same", "_law_same", "_law_same", ["_law_found_here", "_law_due_here"], N__law_same, st__law_same, f18, PySem.W.fnOf "_law_same" "_law_same" (defArgs st__law_same) (defBody st__law_same) (defScope st__law_same) .none kV18 dc18 pm18 an18 cd18 ct18, f__law_same⟩,
    ⟨.fn, "_law_office", "_law_office", "_law_office", ["_law_top", "_law_desks"], N__law_office, st__law_office, f19, PySem.W.fnOf "_law_office" "_law_office" (defArgs st__law_office) (defBody st__law_office) (defScope st__law_office) .none kV19 dc19 pm19 an19 cd19 ct19, f__law_office⟩,
    ⟨.fn, "_law_holder", "_law_holder", "_law_holder", ["_law_m", "_law_number"], N__law_holder, st__law_holder, f20, PySem.W.fnOf "_law_holder" "_law_holder" (defArgs st__law_holder) (defBody st__law_holder) (defScope st__law_holder) .none kV20 dc20 pm20 an20 cd20 ct20, f__law_holder⟩,
    ⟨.fn, "_law_lent", "_law_lent", "_law_lent", ["_law_m", "_law_desk", "_law_many"], N__law_lent, st__law_lent, f21, PySem.W.fnOf "_law_lent" "_law_lent" (defArgs st__law_lent) (defBody st__law_lent) (defScope st__law_lent) .none kV21 dc21 pm21 an21 cd21 ct21, f__law_lent⟩,
    ⟨.fn, "_law_reported", "_law_reported", "_law_reported", ["_law_m", "_law_desk", "_law_words_here"], N__law_reported, st__law_reported, f22, PySem.W.fnOf "_law_reported" "_law_reported" (defArgs st__law_reported) (defBody st__law_reported) (defScope st__law_reported) .none kV22 dc22 pm22 an22 cd22 ct22, f__law_reported⟩,
    ⟨.fn, "_law_found", "_law_found", "_law_found", ["_law_m", "_law_number"], N__law_found, st__law_found, f23, PySem.W.fnOf "_law_found" "_law_found" (defArgs st__law_found) (defBody st__law_found) (defScope st__law_found) .none kV23 dc23 pm23 an23 cd23 ct23, f__law_found⟩,
    ⟨.fn, "_law_settled", "_law_settled", "_law_settled", ["_law_m", "_law_desk", "_law_many"], N__law_settled, st__law_settled, f24, PySem.W.fnOf "_law_settled" "_law_settled" (defArgs st__law_settled) (defBody st__law_settled) (defScope st__law_settled) .none kV24 dc24 pm24 an24 cd24 ct24, f__law_settled⟩,
    ⟨.fn, "_law_due", "_law_due", "_law_due", ["_law_m", "_law_deed_here"], N__law_due, st__law_due, f25, PySem.W.fnOf "_law_due" "_law_due" (defArgs st__law_due) (defBody st__law_due) (defScope st__law_due) .none kV25 dc25 pm25 an25 cd25 ct25, f__law_due⟩,
    ⟨.fn, "_law_does", "_law_does", "_law_does", ["_law_office_here", "_law_deed_here"], N__law_does, st__law_does, f26, PySem.W.fnOf "_law_does" "_law_does" (defArgs st__law_does) (defBody st__law_does) (defScope st__law_does) .none kV26 dc26 pm26 an26 cd26 ct26, f__law_does⟩,
    ⟨.fn, "_law_told", "_law_told", "_law_told", ["_law_office_here", "_law_deed_here"], N__law_told, st__law_told, f27, PySem.W.fnOf "_law_told" "_law_told" (defArgs st__law_told) (defBody st__law_told) (defScope st__law_told) .none kV27 dc27 pm27 an27 cd27 ct27, f__law_told⟩,
    ⟨.fn, "_law_words", "_law_words", "_law_words", ["_law_state_here", "_law_many"], N__law_words, st__law_words, f28, PySem.W.fnOf "_law_words" "_law_words" (defArgs st__law_words) (defBody st__law_words) (defScope st__law_words) .none kV28 dc28 pm28 an28 cd28 ct28, f__law_words⟩,
    ⟨.fn, "_law_deed", "_law_deed", "_law_deed", ["_law_state_here", "_law_m", "_law_wide"], N__law_deed, st__law_deed, f29, PySem.W.fnOf "_law_deed" "_law_deed" (defArgs st__law_deed) (defBody st__law_deed) (defScope st__law_deed) .none kV29 dc29 pm29 an29 cd29 ct29, f__law_deed⟩,
    ⟨.fn, "_law_made", "_law_made", "_law_made", ["_law_state_here", "_law_wide", "_law_most"], N__law_made, st__law_made, f30, PySem.W.fnOf "_law_made" "_law_made" (defArgs st__law_made) (defBody st__law_made) (defScope st__law_made) .none kV30 dc30 pm30 an30 cd30 ct30, f__law_made⟩,
    ⟨.fn, "_law_state", "_law_state", "_law_state", ["_law_m", "_law_number"], N__law_state, st__law_state, f31, PySem.W.fnOf "_law_state" "_law_state" (defArgs st__law_state) (defBody st__law_state) (defScope st__law_state) .none kV31 dc31 pm31 an31 cd31 ct31, f__law_state⟩,
    ⟨.fn, "_law_gaps", "_law_gaps", "_law_gaps", ["_law_m"], N__law_gaps, st__law_gaps, f32, PySem.W.fnOf "_law_gaps" "_law_gaps" (defArgs st__law_gaps) (defBody st__law_gaps) (defScope st__law_gaps) .none kV32 dc32 pm32 an32 cd32 ct32, f__law_gaps⟩,
    ⟨.fn, "law", "law", "law", ["_law_script"], N_law, st_law, f33, PySem.W.fnOf "law" "law" (defArgs st_law) (defBody st_law) (defScope st_law) .none kV33 dc33 pm33 an33 cd33 ct33, f_law⟩] : List Entry), EntOk K mg (cn K x0 x1 x2 x3 x4 x5 x6 x7 x8 x9 x10 x11 x12 y0 y1) prog tab e := by
    exact List.forall_mem_cons.mpr ⟨⟨F0, sc_state_in, b0, fn_at rfl (PySem.W.mg_of X G a0), rfl, rfl, rfl, ck_state_in⟩, List.forall_mem_cons.mpr ⟨⟨F1, sc_state_of, b1, fn_at rfl (PySem.W.mg_of X G a1), rfl, rfl, rfl, ck_state_of⟩, List.forall_mem_cons.mpr ⟨⟨F2, sc_gaps, b2, fn_at rfl (PySem.W.mg_of X G a2), rfl, rfl, rfl, ck_gaps⟩, List.forall_mem_cons.mpr ⟨⟨F3, sc_Desk_init, b3, init_of rfl (show "Desk.__init__" = "Desk" ++ ".__init__" by decide +kernel) r0 (PySem.W.mg_of X G ya0) ⟨yf0, a3, i3, yg0⟩, rfl, rfl, rfl, ck_Desk_init⟩, List.forall_mem_cons.mpr ⟨⟨F4, sc_Office_init, b4, init_of rfl (show "Office.__init__" = "Office" ++ ".__init__" by decide +kernel) r1 (PySem.W.mg_of X G ya1) ⟨yf1, a4, i4, yg1⟩, rfl, rfl, rfl, ck_Office_init⟩, List.forall_mem_cons.mpr ⟨⟨F5, sc_Office_desk_of, b5, mt_of rfl (show "Office.desk_of" = "Office" ++ "." ++ "desk_of" by decide +kernel) r1 C1 ⟨a5, i5, k5⟩, rfl, rfl, rfl, ck_Office_desk_of⟩, List.forall_mem_cons.mpr ⟨⟨F6, sc_Office_going, b6, mt_of rfl (show "Office.going" = "Office" ++ "." ++ "going" by decide +kernel) r1 C1 ⟨a6, i6, k6⟩, rfl, rfl, rfl, ck_Office_going⟩, List.forall_mem_cons.mpr ⟨⟨F7, sc_Office_need_number, b7, mt_of rfl (show "Office.need_number" = "Office" ++ "." ++ "need_number" by decide +kernel) r1 C1 ⟨a7, i7, k7⟩, rfl, rfl, rfl, ck_Office_need_number⟩, List.forall_mem_cons.mpr ⟨⟨F8, sc_Office_holder, b8, mt_of rfl (show "Office.holder" = "Office" ++ "." ++ "holder" by decide +kernel) r1 C1 ⟨a8, i8, k8⟩, rfl, rfl, rfl, ck_Office_holder⟩, List.forall_mem_cons.mpr ⟨⟨F9, sc_Office_is_free, b9, mt_of rfl (show "Office.is_free" = "Office" ++ "." ++ "is_free" by decide +kernel) r1 C1 ⟨a9, i9, k9⟩, rfl, rfl, rfl, ck_Office_is_free⟩, List.forall_mem_cons.mpr ⟨⟨F10, sc_Office_lend, b10, mt_of rfl (show "Office.lend" = "Office" ++ "." ++ "lend" by decide +kernel) r1 C1 ⟨a10, i10, k10⟩, rfl, rfl, rfl, ck_Office_lend⟩, List.forall_mem_cons.mpr ⟨⟨F11, sc_Office_report, b11, mt_of rfl (show "Office.report" = "Office" ++ "." ++ "report" by decide +kernel) r1 C1 ⟨a11, i11, k11⟩, rfl, rfl, rfl, ck_Office_report⟩, List.forall_mem_cons.mpr ⟨⟨F12, sc_Office_back, b12, mt_of rfl (show "Office.back" = "Office" ++ "." ++ "back" by decide +kernel) r1 C1 ⟨a12, i12, k12⟩, rfl, rfl, rfl, ck_Office_back⟩, List.forall_mem_cons.mpr ⟨⟨F13, sc_Office_stop, b13, mt_of rfl (show "Office.stop" = "Office" ++ "." ++ "stop" by decide +kernel) r1 C1 ⟨a13, i13, k13⟩, rfl, rfl, rfl, ck_Office_stop⟩, List.forall_mem_cons.mpr ⟨⟨F14, sc_Office_found, b14, mt_of rfl (show "Office.found" = "Office" ++ "." ++ "found" by decide +kernel) r1 C1 ⟨a14, i14, k14⟩, rfl, rfl, rfl, ck_Office_found⟩, List.forall_mem_cons.mpr ⟨⟨F15, sc_Office_settle, b15, mt_of rfl (show "Office.settle" = "Office" ++ "." ++ "settle" by decide +kernel) r1 C1 ⟨a15, i15, k15⟩, rfl, rfl, rfl, ck_Office_settle⟩, List.forall_mem_cons.mpr ⟨⟨F16, sc__law_start, b16, fn_at rfl (PySem.W.mg_of X G a16), rfl, rfl, rfl, ck__law_start⟩, List.forall_mem_cons.mpr ⟨⟨F17, sc__law_drawn, b17, fn_at rfl (PySem.W.mg_of X G a17), rfl, rfl, rfl, ck__law_drawn⟩, List.forall_mem_cons.mpr ⟨⟨F18, sc__law_same, b18, fn_at rfl (PySem.W.mg_of X G a18), rfl, rfl, rfl, ck__law_same⟩, List.forall_mem_cons.mpr ⟨⟨F19, sc__law_office, b19, fn_at rfl (PySem.W.mg_of X G a19), rfl, rfl, rfl, ck__law_office⟩, List.forall_mem_cons.mpr ⟨⟨F20, sc__law_holder, b20, fn_at rfl (PySem.W.mg_of X G a20), rfl, rfl, rfl, ck__law_holder⟩, List.forall_mem_cons.mpr ⟨⟨F21, sc__law_lent, b21, fn_at rfl (PySem.W.mg_of X G a21), rfl, rfl, rfl, ck__law_lent⟩, List.forall_mem_cons.mpr ⟨⟨F22, sc__law_reported, b22, fn_at rfl (PySem.W.mg_of X G a22), rfl, rfl, rfl, ck__law_reported⟩, List.forall_mem_cons.mpr ⟨⟨F23, sc__law_found, b23, fn_at rfl (PySem.W.mg_of X G a23), rfl, rfl, rfl, ck__law_found⟩, List.forall_mem_cons.mpr ⟨⟨F24, sc__law_settled, b24, fn_at rfl (PySem.W.mg_of X G a24), rfl, rfl, rfl, ck__law_settled⟩, List.forall_mem_cons.mpr ⟨⟨F25, sc__law_due, b25, fn_at rfl (PySem.W.mg_of X G a25), rfl, rfl, rfl, ck__law_due⟩, List.forall_mem_cons.mpr ⟨⟨F26, sc__law_does, b26, fn_at rfl (PySem.W.mg_of X G a26), rfl, rfl, rfl, ck__law_does⟩, List.forall_mem_cons.mpr ⟨⟨F27, sc__law_told, b27, fn_at rfl (PySem.W.mg_of X G a27), rfl, rfl, rfl, ck__law_told⟩, List.forall_mem_cons.mpr ⟨⟨F28, sc__law_words, b28, fn_at rfl (PySem.W.mg_of X G a28), rfl, rfl, rfl, ck__law_words⟩, List.forall_mem_cons.mpr ⟨⟨F29, sc__law_deed, b29, fn_at rfl (PySem.W.mg_of X G a29), rfl, rfl, rfl, ck__law_deed⟩, List.forall_mem_cons.mpr ⟨⟨F30, sc__law_made, b30, fn_at rfl (PySem.W.mg_of X G a30), rfl, rfl, rfl, ck__law_made⟩, List.forall_mem_cons.mpr ⟨⟨F31, sc__law_state, b31, fn_at rfl (PySem.W.mg_of X G a31), rfl, rfl, rfl, ck__law_state⟩, List.forall_mem_cons.mpr ⟨⟨F32, sc__law_gaps, b32, fn_at rfl (PySem.W.mg_of X G a32), rfl, rfl, rfl, ck__law_gaps⟩, List.forall_mem_cons.mpr ⟨⟨F33, sc_law, b33, fn_at rfl (PySem.W.mg_of X G a33), rfl, rfl, rfl, ck_law⟩, fun _ hm => nomatch hm⟩⟩⟩⟩⟩⟩⟩⟩⟩⟩⟩⟩⟩⟩⟩⟩⟩⟩⟩⟩⟩⟩⟩⟩⟩⟩⟩⟩⟩⟩⟩⟩⟩⟩
  refine ⟨PySem.W.fnOf "law" "law" (defArgs st_law) (defBody st_law) (defScope st_law) .none kV33 dc33 pm33 an33 cd33 ct33, fun s v => .of_eq rfl, fun base _ _ => ?_⟩
  have Z := all_ok (P := l.prog) (w := w) (base := base) (m := 1000000) (c := (cn K x0 x1 x2 x3 x4 x5 x6 x7 x8 x9 x10 x11 x12 y0 y1)) rfl rfl rfl rfl rfl hb hT 100 _ (.tail _ (.tail _ (.tail _ (.tail _ (.tail _ (.tail _ (.tail _ (.tail _ (.tail _ (.tail _ (.tail _ (.tail _ (.tail _ (.tail _ (.tail _ (.tail _ (.tail _ (.tail _ (.tail _ (.tail _ (.tail _ (.tail _ (.tail _ (.tail _ (.tail _ (.tail _ (.tail _ (.tail _ (.tail _ (.tail _ (.tail _ (.tail _ (.tail _ (.head _))))))))))))))))))))))))))))))))))
  exact Z.imp fun vs H Q E hq => hq (cn K x0 x1 x2 x3 x4 x5 x6 x7 x8 x9 x10 x11 x12 y0 y1) rfl
end OI
open PySem PySem.W PyProof.Rows
set_option maxHeartbeats 0 in
theorem PySem.Challenge.cw_numbergaps_k04_states_and_gaps_holds : PySem.Challenge.rw_numbergaps_k04_states_and_gaps.Holds := by
  w_on; o_law; k_head; (case hw => w_witness2)
  k_fill
  refine L2.walk_ofB (l := PySem.Challenge.rw_numbergaps_k04_states_and_gaps) (n := 63) (k := 200) (x := "_law_script") (CX := fun w => L2.CX PySem.Challenge.pw_numbergaps_k04_states_and_gaps w) (sp := fun w => OI.spLaw _) rfl (by decide) rfl ⟨rfl, by decide, by decide⟩ (fun w h Y => PySem.W.kIn_of Y) ?F (fun _ H a ns h1 h2 h3 h4 c hc => OI.law_sp hc.symm OI.pure_law H a ns h1 h2 h3 h4) (fun w H s e s' hx => by obtain ⟨_, _, _, _, _, _, _, _, _, _, _, _, z⟩ := hx; exact z)
  case F =>
    intro w mg fa h KX G hmg
    refine' OI.all_mk (l := PySem.Challenge.rw_numbergaps_k04_states_and_gaps) KX G hmg ?ea0 ?eb0 ?ec0 ?ed0 ?ee0 ?ef0 ?eg0 ?eh0 ?ei0 ?ej0 ?ek0 ?ea1 ?eb1 ?ec1 ?ed1 ?ee1 ?ef1 ?eg1 ?eh1 ?ei1 ?ej1 ?ek1 ?ea2 ?eb2 ?ec2 ?ed2 ?ee2 ?ef2 ?eg2 ?eh2 ?ei2 ?ej2 ?ek2 ?ea3 ?eb3 ?ec3 ?ed3 ?ee3 ?ef3 ?eg3 ?eh3 ?ei3 ?ej3 ?ek3 ?ea4 ?eb4 ?ec4 ?ed4 ?ee4 ?ef4 ?eg4 ?eh4 ?ei4 ?ej4 ?ek4 ?ea5 ?eb5 ?ec5 ?ed5 ?ee5 ?ef5 ?eg5 ?eh5 ?ei5 ?ej5 ?ek5 ?ea6 ?eb6 ?ec6 ?ed6 ?ee6 ?ef6 ?eg6 ?eh6 ?ei6 ?ej6 ?ek6 ?ea7 ?eb7 ?ec7 ?ed7 ?ee7 ?ef7 ?eg7 ?eh7 ?ei7 ?ej7 ?ek7 ?ea8 ?eb8 ?ec8 ?ed8 ?ee8 ?ef8 ?eg8 ?eh8 ?ei8 ?ej8 ?ek8 ?ea9 ?eb9 ?ec9 ?ed9 ?ee9 ?ef9 ?eg9 ?eh9 ?ei9 ?ej9 ?ek9 ?ea10 ?eb10 ?ec10 ?ed10 ?ee10 ?ef10 ?eg10 ?eh10 ?ei10 ?ej10 ?ek10 ?ea11 ?eb11 ?ec11 ?ed11 ?ee11 ?ef11 ?eg11 ?eh11 ?ei11 ?ej11 ?ek11 ?ea12 ?eb12 ?ec12 ?ed12 ?ee12 ?ef12 ?eg12 ?eh12 ?ei12 ?ej12 ?ek12 ?el ?em ?s0_0 ?s0_1 ?s0_2 ?s0_3 ?s0_4 ?s0_5 ?s0_6 ?s0_7 ?s0_8 ?s0_9 ?s0_10 ?s0_11 ?s0_12 ?s1_0 ?s1_1 ?s1_2 ?s1_3 ?s1_4 ?s1_5 ?s1_6 ?s1_7 ?s1_8 ?s1_9 ?s1_10 ?s1_11 ?s1_12 ?s2_0 ?s2_1 ?s2_2 ?s2_3 ?s2_4 ?s2_5 ?s2_6 ?s2_7 ?s2_8 ?s2_9 ?s2_10 ?s2_11 ?s2_12 ?s3_0 ?s3_1 ?s3_2 ?s3_3 ?s3_4 ?s3_5 ?s3_6 ?s3_7 ?s3_8 ?s3_9 ?s3_10 ?s3_11 ?s3_12 ?s4_0 ?s4_1 ?s4_2 ?s4_3 ?s4_4 ?s4_5 ?s4_6 ?s4_7 ?s4_8 ?s4_9 ?s4_10 ?s4_11 ?s4_12 ?s5_0 ?s5_1 ?s5_2 ?s5_3 ?s5_4 ?s5_5 ?s5_6 ?s5_7 ?s5_8 ?s5_9 ?s5_10 ?s5_11 ?s5_12 ?s6_0 ?s6_1 ?s6_2 ?s6_3 ?s6_4 ?s6_5 ?s6_6 ?s6_7 ?s6_8 ?s6_9 ?s6_10 ?s6_11 ?s6_12 ?s7_0 ?s7_1 ?s7_2 ?s7_3 ?s7_4 ?s7_5 ?s7_6 ?s7_7 ?s7_8 ?s7_9 ?s7_10 ?s7_11 ?s7_12 ?s8_0 ?s8_1 ?s8_2 ?s8_3 ?s8_4 ?s8_5 ?s8_6 ?s8_7 ?s8_8 ?s8_9 ?s8_10 ?s8_11 ?s8_12 ?s9_0 ?s9_1 ?s9_2 ?s9_3 ?s9_4 ?s9_5 ?s9_6 ?s9_7 ?s9_8 ?s9_9 ?s9_10 ?s9_11 ?s9_12 ?s10_0 ?s10_1 ?s10_2 ?s10_3 ?s10_4 ?s10_5 ?s10_6 ?s10_7 ?s10_8 ?s10_9 ?s10_10 ?s10_11 ?s10_12 ?s11_0 ?s11_1 ?s11_2 ?s11_3 ?s11_4 ?s11_5 ?s11_6 ?s11_7 ?s11_8 ?s11_9 ?s11_10 ?s11_11 ?s11_12 ?s12_0 ?s12_1 ?s12_2 ?s12_3 ?s12_4 ?s12_5 ?s12_6 ?s12_7 ?s12_8 ?s12_9 ?s12_10 ?s12_11 ?s12_12 ?ya0 ?yb0 ?yc0 ?yd0 ?ye0 ?yf0 ?yg0 ?yn0_0 ?yn0_1 ?yn0_2 ?yn0_3 ?yn0_4 ?yn0_5 ?yn0_6 ?ya1 ?yb1 ?yc1 ?yd1 ?ye1 ?yf1 ?yg1 ?yn1_0 ?yn1_1 ?yn1_2 ?yn1_3 ?yn1_4 ?yn1_5 ?yn1_6 ?a0 ?l0 ?c0 ?k0 ?a1 ?l1 ?c1 ?k1 ?a2 ?l2 ?c2 ?k2 ?a3 ?i3 ?l3 ?c3 ?k3 ?a4 ?i4 ?l4 ?c4 ?k4 ?a5 ?i5 ?l5 ?c5 ?k5 ?a6 ?i6 ?l6 ?c6 ?k6 ?a7 ?i7 ?l7 ?c7 ?k7 ?a8 ?i8 ?l8 ?c8 ?k8 ?a9 ?i9 ?l9 ?c9 ?k9 ?a10 ?i10 ?l10 ?c10 ?k10 ?a11 ?i11 ?l11 ?c11 ?k11 ?a12 ?i12 ?l12 ?c12 ?k12 ?a13 ?i13 ?l13 ?c13 ?k13 ?a14 ?i14 ?l14 ?c14 ?k14 ?a15 ?i15 ?l15 ?c15 ?k15 ?a16 ?l16 ?c16 ?k16 ?a17 ?l17 ?c17 ?k17 ?a18 ?l18 ?c18 ?k18 ?a19 ?l19 ?c19 ?k19 ?a20 ?l20 ?c20 ?k20 ?a21 ?l21 ?c21 ?k21 ?a22 ?l22 ?c22 ?k22 ?a23 ?l23 ?c23 ?k23 ?a24 ?l24 ?c24 ?k24 ?a25 ?l25 ?c25 ?k25 ?a26 ?l26 ?c26 ?k26 ?a27 ?l27 ?c27 ?k27 ?a28 ?l28 ?c28 ?k28 ?a29 ?l29 ?c29 ?k29 ?a30 ?l30 ?c30 ?k30 ?a31 ?l31 ?c31 ?k31 ?a32 ?l32 ?c32 ?k32 ?a33 ?l33 ?c33 ?k33 ?oig0 ?oig1 ?oig2 ?oigl2 ?oigz2 ?oigv2 ?z0 ?z1 ?z2 ?z3 ?z4 ?z5 ?z6 ?z7 ?z8 ?z9 ?z10 ?z11 ?z12
    (case ea0 => k_is); (case eb0 => k_is); (case ec0 => k_exc); (case ed0 => k_is); (case ee0 => k_is); (case ef0 => k_is); (case eg0 => k_is); (case eh0 => k_is); (case ei0 => k_is); (case ej0 => k_is); (case ek0 => k_is); (case ea1 => k_is); (case eb1 => k_is); (case ec1 => k_exc); (case ed1 => k_is); (case ee1 => k_is); (case ef1 => k_is); (case eg1 => k_is); (case eh1 => k_is); (case ei1 => k_is); (case ej1 => k_is); (case ek1 => k_is); (case ea2 => k_is); (case eb2 => k_is); (case ec2 => k_exc); (case ed2 => k_is); (case ee2 => k_is); (case ef2 => k_is); (case eg2 => k_is); (case eh2 => k_is); (case ei2 => k_is); (case ej2 => k_is); (case ek2 => k_is); (case ea3 => k_is); (case eb3 => k_is); (case ec3 => k_exc); (case ed3 => k_is); (case ee3 => k_is); (case ef3 => k_is); (case eg3 => k_is); (case eh3 => k_is); (case ei3 => k_is); (case ej3 => k_is); (case ek3 => k_is); (case ea4 => k_is); (case eb4 => k_is); (case ec4 => k_exc); (case ed4 => k_is); (case ee4 => k_is); (case ef4 => k_is); (case eg4 => k_is); (case eh4 => k_is); (case ei4 => k_is); (case ej4 => k_is); (case ek4 => k_is); (case ea5 => k_is); (case eb5 => k_is); (case ec5 => k_exc); (case ed5 => k_is); (case ee5 => k_is); (case ef5 => k_is); (case eg5 => k_is); (case eh5 => k_is); (case ei5 => k_is); (case ej5 => k_is); (case ek5 => k_is); (case ea6 => k_is); (case eb6 => k_is); (case ec6 => k_exc); (case ed6 => k_is); (case ee6 => k_is); (case ef6 => k_is); (case eg6 => k_is); (case eh6 => k_is); (case ei6 => k_is); (case ej6 => k_is); (case ek6 => k_is); (case ea7 => k_is); (case eb7 => k_is); (case ec7 => k_exc); (case ed7 => k_is); (case ee7 => k_is); (case ef7 => k_is); (case eg7 => k_is); (case eh7 => k_is); (case ei7 => k_is); (case ej7 => k_is); (case ek7 => k_is); (case ea8 => k_is); (case eb8 => k_is); (case ec8 => k_exc); (case ed8 => k_is); (case ee8 => k_is); (case ef8 => k_is); (case eg8 => k_is); (case eh8 => k_is); (case ei8 => k_is); (case ej8 => k_is); (case ek8 => k_is); (case ea9 => k_is); (case eb9 => k_is); (case ec9 => k_exc); (case ed9 => k_is); (case ee9 => k_is); (case ef9 => k_is); (case eg9 => k_is); (case eh9 => k_is); (case ei9 => k_is); (case ej9 => k_is); (case ek9 => k_is); (case ea10 => k_is); (case eb10 => k_is); (case ec10 => k_exc); (case ed10 => k_is); (case ee10 => k_is); (case ef10 => k_is); (case eg10 => k_is); (case eh10 => k_is); (case ei10 => k_is); (case ej10 => k_is); (case ek10 => k_is); (case ea11 => k_is); (case eb11 => k_is); (case ec11 => k_exc); (case ed11 => k_is); (case ee11 => k_is); (case ef11 => k_is); (case eg11 => k_is); (case eh11 => k_is); (case ei11 => k_is); (case ej11 => k_is); (case ek11 => k_is); (case ea12 => k_is); (case eb12 => k_is); (case ec12 => k_exc); (case ed12 => k_is); (case ee12 => k_is); (case ef12 => k_is); (case eg12 => k_is); (case eh12 => k_is); (case ei12 => k_is); (case ej12 => k_is); (case ek12 => k_is); (case el => k_is); (case em => k_is); (case s0_0 => k_is); (case s0_1 => k_is); (case s0_2 => k_is); (case s0_3 => k_is); (case s0_4 => k_is); (case s0_5 => k_is); (case s0_6 => k_is); (case s0_7 => k_is); (case s0_8 => k_is); (case s0_9 => k_is); (case s0_10 => k_is); (case s0_11 => k_is); (case s0_12 => k_is); (case s1_0 => k_is); (case s1_1 => k_is); (case s1_2 => k_is); (case s1_3 => k_is); (case s1_4 => k_is); (case s1_5 => k_is); (case s1_6 => k_is); (case s1_7 => k_is); (case s1_8 => k_is); (case s1_9 => k_is); (case s1_10 => k_is); (case s1_11 => k_is); (case s1_12 => k_is); (case s2_0 => k_is); (case s2_1 => k_is); (case s2_2 => k_is); (case s2_3 => k_is); (case s2_4 => k_is); (case s2_5 => k_is); (case s2_6 => k_is); (case s2_7 => k_is); (case s2_8 => k_is); (case s2_9 => k_is); (case s2_10 => k_is); (case s2_11 => k_is); (case s2_12 => k_is); (case s3_0 => k_is); (case s3_1 => k_is); (case s3_2 => k_is); (case s3_3 => k_is); (case s3_4 => k_is); (case s3_5 => k_is); (case s3_6 => k_is); (case s3_7 => k_is); (case s3_8 => k_is); (case s3_9 => k_is); (case s3_10 => k_is); (case s3_11 => k_is); (case s3_12 => k_is); (case s4_0 => k_is); (case s4_1 => k_is); (case s4_2 => k_is); (case s4_3 => k_is); (case s4_4 => k_is); (case s4_5 => k_is); (case s4_6 => k_is); (case s4_7 => k_is); (case s4_8 => k_is); (case s4_9 => k_is); (case s4_10 => k_is); (case s4_11 => k_is); (case s4_12 => k_is); (case s5_0 => k_is); (case s5_1 => k_is); (case s5_2 => k_is); (case s5_3 => k_is); (case s5_4 => k_is); (case s5_5 => k_is); (case s5_6 => k_is); (case s5_7 => k_is); (case s5_8 => k_is); (case s5_9 => k_is); (case s5_10 => k_is); (case s5_11 => k_is); (case s5_12 => k_is); (case s6_0 => k_is); (case s6_1 => k_is); (case s6_2 => k_is); (case s6_3 => k_is); (case s6_4 => k_is); (case s6_5 => k_is); (case s6_6 => k_is); (case s6_7 => k_is); (case s6_8 => k_is); (case s6_9 => k_is); (case s6_10 => k_is); (case s6_11 => k_is); (case s6_12 => k_is); (case s7_0 => k_is); (case s7_1 => k_is); (case s7_2 => k_is); (case s7_3 => k_is); (case s7_4 => k_is); (case s7_5 => k_is); (case s7_6 => k_is); (case s7_7 => k_is); (case s7_8 => k_is); (case s7_9 => k_is); (case s7_10 => k_is); (case s7_11 => k_is); (case s7_12 => k_is); (case s8_0 => k_is); (case s8_1 => k_is); (case s8_2 => k_is); (case s8_3 => k_is); (case s8_4 => k_is); (case s8_5 => k_is); (case s8_6 => k_is); (case s8_7 => k_is); (case s8_8 => k_is); (case s8_9 => k_is); (case s8_10 => k_is); (case s8_11 => k_is); (case s8_12 => k_is); (case s9_0 => k_is); (case s9_1 => k_is); (case s9_2 => k_is); (case s9_3 => k_is); (case s9_4 => k_is); (case s9_5 => k_is); (case s9_6 => k_is); (case s9_7 => k_is); (case s9_8 => k_is); (case s9_9 => k_is); (case s9_10 => k_is); (case s9_11 => k_is); (case s9_12 => k_is); (case s10_0 => k_is); (case s10_1 => k_is); (case s10_2 => k_is); (case s10_3 => k_is); (case s10_4 => k_is); (case s10_5 => k_is); (case s10_6 => k_is); (case s10_7 => k_is); (case s10_8 => k_is); (case s10_9 => k_is); (case s10_10 => k_is); (case s10_11 => k_is); (case s10_12 => k_is); (case s11_0 => k_is); (case s11_1 => k_is); (case s11_2 => k_is); (case s11_3 => k_is); (case s11_4 => k_is); (case s11_5 => k_is); (case s11_6 => k_is); (case s11_7 => k_is); (case s11_8 => k_is); (case s11_9 => k_is); (case s11_10 => k_is); (case s11_11 => k_is); (case s11_12 => k_is); (case s12_0 => k_is); (case s12_1 => k_is); (case s12_2 => k_is); (case s12_3 => k_is); (case s12_4 => k_is); (case s12_5 => k_is); (case s12_6 => k_is); (case s12_7 => k_is); (case s12_8 => k_is); (case s12_9 => k_is); (case s12_10 => k_is); (case s12_11 => k_is); (case s12_12 => k_is); (case ya0 => k_is); (case yb0 => k_is); (case yc0 => k_is); (case yd0 => k_is); (case ye0 => k_is); (case yf0 => k_is); (case yg0 => k_is); (case yn0_0 => k_is); (case yn0_1 => k_is); (case yn0_2 => k_is); (case yn0_3 => k_is); (case yn0_4 => k_is); (case yn0_5 => k_is); (case yn0_6 => k_is); (case ya1 => k_is); (case yb1 => k_is); (case yc1 => k_is); (case yd1 => k_is); (case ye1 => k_is); (case yf1 => k_is); (case yg1 => k_is); (case yn1_0 => k_is); (case yn1_1 => k_is); (case yn1_2 => k_is); (case yn1_3 => k_is); (case yn1_4 => k_is); (case yn1_5 => k_is); (case yn1_6 => k_is); (case a0 => k_is); (case l0 => k_is); (case c0 => k_is); (case k0 => k_is); (case a1 => k_is); (case l1 => k_is); (case c1 => k_is); (case k1 => k_is); (case a2 => k_is); (case l2 => k_is); (case c2 => k_is); (case k2 => k_is); (case a3 => k_is); (case i3 => k_is); (case l3 => k_is); (case c3 => k_is); (case k3 => k_is); (case a4 => k_is); (case i4 => k_is); (case l4 => k_is); (case c4 => k_is); (case k4 => k_is); (case a5 => k_is); (case i5 => k_is); (case l5 => k_is); (case c5 => k_is); (case k5 => k_is); (case a6 => k_is); (case i6 => k_is); (case l6 => k_is); (case c6 => k_is); (case k6 => k_is); (case a7 => k_is); (case i7 => k_is); (case l7 => k_is); (case c7 => k_is); (case k7 => k_is); (case a8 => k_is); (case i8 => k_is); (case l8 => k_is); (case c8 => k_is); (case k8 => k_is); (case a9 => k_is); (case i9 => k_is); (case l9 => k_is); (case c9 => k_is); (case k9 => k_is); (case a10 => k_is); (case i10 => k_is); (case l10 => k_is); (case c10 => k_is); (case k10 => k_is); (case a11 => k_is); (case i11 => k_is); (case l11 => k_is); (case c11 => k_is); (case k11 => k_is); (case a12 => k_is); (case i12 => k_is); (case l12 => k_is); (case c12 => k_is); (case k12 => k_is); (case a13 => k_is); (case i13 => k_is); (case l13 => k_is); (case c13 => k_is); (case k13 => k_is); (case a14 => k_is); (case i14 => k_is); (case l14 => k_is); (case c14 => k_is); (case k14 => k_is); (case a15 => k_is); (case i15 => k_is); (case l15 => k_is); (case c15 => k_is); (case k15 => k_is); (case a16 => k_is); (case l16 => k_is); (case c16 => k_is); (case k16 => k_is); (case a17 => k_is); (case l17 => k_is); (case c17 => k_is); (case k17 => k_is); (case a18 => k_is); (case l18 => k_is); (case c18 => k_is); (case k18 => k_is); (case a19 => k_is); (case l19 => k_is); (case c19 => k_is); (case k19 => k_is); (case a20 => k_is); (case l20 => k_is); (case c20 => k_is); (case k20 => k_is); (case a21 => k_is); (case l21 => k_is); (case c21 => k_is); (case k21 => k_is); (case a22 => k_is); (case l22 => k_is); (case c22 => k_is); (case k22 => k_is); (case a23 => k_is); (case l23 => k_is); (case c23 => k_is); (case k23 => k_is); (case a24 => k_is); (case l24 => k_is); (case c24 => k_is); (case k24 => k_is); (case a25 => k_is); (case l25 => k_is); (case c25 => k_is); (case k25 => k_is); (case a26 => k_is); (case l26 => k_is); (case c26 => k_is); (case k26 => k_is); (case a27 => k_is); (case l27 => k_is); (case c27 => k_is); (case k27 => k_is); (case a28 => k_is); (case l28 => k_is); (case c28 => k_is); (case k28 => k_is); (case a29 => k_is); (case l29 => k_is); (case c29 => k_is); (case k29 => k_is); (case a30 => k_is); (case l30 => k_is); (case c30 => k_is); (case k30 => k_is); (case a31 => k_is); (case l31 => k_is); (case c31 => k_is); (case k31 => k_is); (case a32 => k_is); (case l32 => k_is); (case c32 => k_is); (case k32 => k_is); (case a33 => k_is); (case l33 => k_is); (case c33 => k_is); (case k33 => k_is); (case oig0 => k_is); (case oig1 => k_is); (case oig2 => k_is); (case oigl2 => k_is); (case oigz2 => decide); (case oigv2 => exact .cons ⟨_, rfl⟩ (.cons ⟨_, rfl⟩ (.nil))); (case z0 => k_is); (case z1 => k_is); (case z2 => k_is); (case z3 => k_is); (case z4 => k_is); (case z5 => k_is); (case z6 => k_is); (case z7 => k_is); (case z8 => k_is); (case z9 => k_is); (case z10 => k_is); (case z11 => k_is); (case z12 => k_is)
